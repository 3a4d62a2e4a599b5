import PyProof.Rows.All
import Wide.All
import OpenK.AllK
import Wide.FinOn
import HandS.ForMost
import HandS.IsInst
import HandS.Gcd
import HandS.Wide
import HandS.Walk
import HandS.Zip
import HandS.TupAny
import HandS.TupMul
import PyProof.ReprReads
import HandS.Deep
import HandS.Style
import KE.GoesEnum
import HandS.Star
import HandS.NoneIn
import PyProof.ReprLen
import PySem.Challenge.RW_putwithin_k48_whole_roots_and_repeated_o
set_option Elab.async false
set_option linter.all false
set_option maxRecDepth 100000
set_option maxHeartbeats 2000000
set_option autoImplicit false
/-! A small evaluator over plain data, and what it says of the abstract heap. -/
namespace DE
open PySem PySem.Spec PyProof.Rows L2

abbrev D := PyData
/-- the state of the drawing source -/
structure Src where
  cells : List Int
  left : Int
  mixed : Int
  turn : Int

/-- what a slot holds: nothing known, a value, a list of its own (may be changed), the drawing source -/
inductive SV where
  | un | val (d : D) | own (ds : List D) | src | cel | scr (ns : List Int)
structure Stt where
  γ : List SV
  S : Option Src
/-- what an expression gives: a value, a new list, the list of slot i, the source -/
inductive R where
  | val (d : D) | new (ds : List D) | bor (i : Nat) | src | scr (ns : List Int)
/-- an argument, a function's result -/
inductive A where
  | val (d : D) | src | scr (ns : List Int)
abbrev Fn := List A → Option Src → Option (A × Option Src)

mutual
inductive En (K : PySem.W.Frag) (G : Hp) : V → D → Prop
  | non : En K G .non .none
  | bl (b : Bool) : En K G (.bl b) (.bool b)
  | int (i : Int) : En K G (.int i) (.int i)
  | str (x : Str) : En K G (.str x) (.str x)
  | lst {a : Addr} {xs : List V} {ds : List D} : G a = some (.lst xs) → EnL K G xs ds → En K G (.ref a) (.list ds)
  | tup {a : Addr} {xs : List V} {ds : List D} : SqT K G a xs → EnL K G xs ds → En K G (.ref a) (.tuple ds)
  | dic0 {a : Addr} : G a = some (.dK []) → En K G (.ref a) (.dict [])
inductive EnL (K : PySem.W.Frag) (G : Hp) : List V → List D → Prop
  | nil : EnL K G [] []
  | cons {v : V} {vs : List V} {d : D} {ds : List D} : En K G v d → EnL K G vs ds → EnL K G (v :: vs) (d :: ds)
end

theorem sqT_mono {K : PySem.W.Frag} {G H : Hp} {a : Addr} {xs : List V} (s : Same G H) (h : SqT K G a xs) : SqT K H a xs := by
  rcases h with (h | ⟨o, h⟩) | h
  · exact .inl (.inl (s _ _ h))
  · exact .inl (.inr ⟨o, s _ _ h⟩)
  · exact .inr h
mutual
theorem En.mono {K : PySem.W.Frag} {G H : Hp} (s : Same G H) : ∀ {v : V} {d : D}, En K G v d → En K H v d
  | _, _, .non => .non
  | _, _, .bl b => .bl b
  | _, _, .int i => .int i
  | _, _, .str x => .str x
  | _, _, .lst h l => .lst (s _ _ h) (l.mono s)
  | _, _, .tup h l => .tup (sqT_mono s h) (l.mono s)
  | _, _, .dic0 h => .dic0 (s _ _ h)
theorem EnL.mono {K : PySem.W.Frag} {G H : Hp} (s : Same G H) : ∀ {v : List V} {d : List D}, EnL K G v d → EnL K H v d
  | _, _, .nil => .nil
  | _, _, .cons h l => .cons (h.mono s) (l.mono s)
end
section
variable {K : PySem.W.Frag} {G : Hp}
theorem EnL.length : ∀ {vs : List V} {ds : List D}, EnL K G vs ds → vs.length = ds.length
  | _, _, .nil => rfl
  | _, _, .cons _ l => by simp only [List.length_cons, l.length]
theorem EnL.get : ∀ {vs : List V} {ds : List D} {i : Nat} {d : D}, EnL K G vs ds → ds[i]? = some d → ∃ v, vs[i]? = some v ∧ En K G v d
  | _, _, _, _, .nil, e => by simp at e
  | _, _, 0, _, .cons r _, e => by simp at e; subst e; exact ⟨_, rfl, r⟩
  | _, _, i + 1, x, .cons _ t, e => by
    obtain ⟨u, h1, h2⟩ := EnL.get (i := i) (d := x) t (by simpa using e)
    exact ⟨u, by simpa using h1, h2⟩
theorem EnL.get' : ∀ {vs : List V} {ds : List D} {i : Nat} {v : V}, EnL K G vs ds → vs[i]? = some v → ∃ d, ds[i]? = some d ∧ En K G v d
  | _, _, _, _, .nil, e => by simp at e
  | _, _, 0, _, .cons r _, e => by simp at e; subst e; exact ⟨_, rfl, r⟩
  | _, _, i + 1, x, .cons _ t, e => by
    obtain ⟨u, h1, h2⟩ := EnL.get' (i := i) (v := x) t (by simpa using e)
    exact ⟨u, by simpa using h1, h2⟩
theorem EnL.append : ∀ {vs ws : List V} {ds es : List D}, EnL K G vs ds → EnL K G ws es → EnL K G (vs ++ ws) (ds ++ es)
  | _, _, _, _, .nil, s => s
  | _, _, _, _, .cons r t, s => .cons r (EnL.append t s)
theorem EnL.one {v : V} {d : D} (h : En K G v d) : EnL K G [v] [d] := .cons h .nil
theorem EnL.take : ∀ {vs : List V} {ds : List D} (n : Nat), EnL K G vs ds → EnL K G (vs.take n) (ds.take n)
  | _, _, 0, _ => .nil
  | _, _, _ + 1, .nil => .nil
  | _, _, n + 1, .cons r t => .cons r (EnL.take n t)
theorem EnL.drop : ∀ {vs : List V} {ds : List D} (n : Nat), EnL K G vs ds → EnL K G (vs.drop n) (ds.drop n)
  | _, _, 0, r => r
  | _, _, _ + 1, .nil => .nil
  | _, _, n + 1, .cons _ t => EnL.drop n t
theorem EnL.reverse : ∀ {vs : List V} {ds : List D}, EnL K G vs ds → EnL K G vs.reverse ds.reverse
  | _, _, .nil => .nil
  | _, _, .cons r t => by
    rw [List.reverse_cons, List.reverse_cons]
    exact t.reverse.append (.one r)
theorem EnL.set {v : V} {d : D} (r : En K G v d) : ∀ {vs : List V} {ds : List D} (i : Nat), EnL K G vs ds → EnL K G (vs.set i v) (ds.set i d)
  | _, _, _, .nil => .nil
  | _, _, 0, .cons _ t => .cons r t
  | _, _, i + 1, .cons q t => .cons q (EnL.set r i t)
theorem EnL.rep {vs : List V} {ds : List D} (h : EnL K G vs ds) : ∀ k : Nat, EnL K G (List.replicate k vs).flatten (List.replicate k ds).flatten
  | 0 => .nil
  | k + 1 => by
    rw [List.replicate_succ, List.replicate_succ, List.flatten_cons, List.flatten_cons]
    exact h.append (h.rep k)
theorem EnL.dropLast {vs : List V} {ds : List D} (h : EnL K G vs ds) : EnL K G vs.dropLast ds.dropLast := by
  rw [List.dropLast_eq_take, List.dropLast_eq_take, h.length]
  exact h.take _
end

/-- the source stands at d, its cells at c -/
def srcFs (c : Addr) (s : Src) : List (Key × V) := [(.inr "cells", .ref c), (.inr "left", .int s.left), (.inr "mixed", .int s.mixed), (.inr "turn", .int s.turn)]
def SrcAt (H : Hp) (sd : Addr × Addr) (s : Src) : Prop := H sd.1 = some (.dK (srcFs sd.2 s)) ∧ H sd.2 = some (.lst (s.cells.map V.int))
/-- apart from the source -/
abbrev Apart (S : Option Src) (sd : Addr × Addr) (a : Addr) : Prop := S ≠ none → a ≠ sd.1 ∧ a ≠ sd.2

def SlOk (K : PySem.W.Frag) (S : Option Src) (sd : Addr × Addr) (G H : Hp) : SV → Option (Option V) → Prop
  | .un, _ => True
  | .val d, o => ∃ v, o = some (some v) ∧ En K G v d
  | .own ds, o => ∃ a vs, o = some (some (.ref a)) ∧ H a = some (.lst vs) ∧ G a = none ∧ EnL K G vs ds ∧ Apart S sd a
  | .src, o => o = some (some (.ref sd.1)) ∧ S ≠ none
  | .cel, o => o = some (some (.ref sd.2)) ∧ S ≠ none
  | .scr ns, o => ∃ a, o = some (some (.ref a)) ∧ SqL K G a (ns.map V.int)

structure Rel (K : PySem.W.Frag) (st : Stt) (sd : Addr × Addr) (G : Hp) (σ : List (Option V)) (H : Hp) : Prop where
  sub : Same G H
  len : st.γ.length = σ.length
  sl : ∀ (i : Nat) (x : SV), st.γ[i]? = some x → SlOk K st.S sd G H x (σ[i]?)
  dis : ∀ (i j : Nat) (ds es : List D) (a : Addr), st.γ[i]? = some (.own ds) → st.γ[j]? = some (.own es) → σ[i]? = some (some (.ref a)) → σ[j]? = some (some (.ref a)) → i = j
  src : ∀ s, st.S = some s → SrcAt H sd s ∧ G sd.1 = none ∧ G sd.2 = none ∧ sd.1 ≠ sd.2

theorem Rel.apart {K : PySem.W.Frag} {st : Stt} {sd : Addr × Addr} {G : Hp} {σ : List (Option V)} {H : Hp} (r : Rel K st sd G σ H) {a : Addr} {o : HO} (h : G a = some o) : Apart st.S sd a := fun hn => by
  cases e : st.S with
  | none => exact absurd e hn
  | some s =>
    obtain ⟨_, h1, h2, _⟩ := r.src s e
    exact ⟨fun z => (by rw [z, h1] at h; cases h), fun z => (by rw [z, h2] at h; cases h)⟩

structure Post (K : PySem.W.Frag) (st : Stt) (sd : Addr × Addr) (G : Hp) (σ : List (Option V)) (H : Hp) (st' : Stt) (sd' : Addr × Addr) (G' H' : Hp) : Prop where
  rel : Rel K st' sd' G' σ H'
  ext : Same G G'
  keep : ∀ a o, H a = some o → Apart st.S sd a → H' a = some o
  dom : ∀ a, G a = none → G' a ≠ none → H a = none ∨ ∃ (i : Nat) (ds : List D), st.γ[i]? = some (.own ds) ∧ σ[i]? = some (some (.ref a))
  sdk : st.S ≠ none → st'.S ≠ none ∧ sd' = sd
  new : st.S = none → st'.S ≠ none → H sd'.1 = none ∧ H sd'.2 = none
  shp : ∀ i : Nat, st'.γ[i]? = st.γ[i]? ∨ ∃ ds, st.γ[i]? = some (.own ds) ∧ st'.γ[i]? = some (.val (.list ds))

section
variable {K : PySem.W.Frag} {st st' st1 st2 : Stt} {sd sd' sd1 sd2 : Addr × Addr} {G G' G1 G2 H H' H1 H2 : Hp} {σ : List (Option V)}
theorem Post.refl (r : Rel K st sd G σ H) : Post K st sd G σ H st sd G H :=
  ⟨r, Same.refl _, fun _ _ h _ => h, fun a h h' => absurd h h', fun h => ⟨h, rfl⟩, fun h h' => absurd h h', fun _ => .inl rfl⟩
theorem Post.apart (p : Post K st sd G σ H st1 sd1 G1 H1) {a : Addr} {o : HO} (h : H a = some o) (ha : Apart st.S sd a) : Apart st1.S sd1 a := fun h1 => by
  by_cases e : st.S = none
  · obtain ⟨q1, q2⟩ := p.new e h1
    exact ⟨fun z => (by rw [z, q1] at h; cases h), fun z => (by rw [z, q2] at h; cases h)⟩
  · obtain ⟨_, rfl⟩ := p.sdk e
    exact ha e
theorem Post.trans (p : Post K st sd G σ H st1 sd1 G1 H1) (q : Post K st1 sd1 G1 σ H1 st2 sd2 G2 H2) : Post K st sd G σ H st2 sd2 G2 H2 where
  rel := q.rel
  ext := p.ext.trans q.ext
  keep := fun a o h ha => q.keep a o (p.keep a o h ha) (p.apart h ha)
  dom := fun a h h' => by
    by_cases e : G1 a = none
    · rcases q.dom a e h' with z | ⟨i, ds, z1, z2⟩
      · refine .inl ?_
        cases e2 : H a with
        | none => rfl
        | some o =>
          by_cases hs : st.S = none
          · have := p.keep a o e2 (fun z => absurd hs z)
            rw [z] at this; cases this
          · obtain ⟨h1, rfl⟩ := p.sdk hs
            by_cases ha : a ≠ sd1.1 ∧ a ≠ sd1.2
            · have := p.keep a o e2 (fun _ => ha)
              rw [z] at this; cases this
            · exfalso
              cases e3 : st1.S with
              | none => exact h1 e3
              | some s =>
                obtain ⟨⟨k1, k2⟩, _⟩ := p.rel.src s e3
                by_cases ha1 : a = sd1.1
                · rw [ha1, k1] at z; cases z
                · by_cases ha2 : a = sd1.2
                  · rw [ha2, k2] at z; cases z
                  · exact ha ⟨ha1, ha2⟩
      · refine .inr ⟨i, ds, ?_, z2⟩
        rcases p.shp i with w | ⟨es, w1, w2⟩
        · rw [← w]; exact z1
        · rw [w2] at z1; cases z1
    · exact p.dom a h e
  sdk := fun h => by
    obtain ⟨h1, rfl⟩ := p.sdk h
    exact q.sdk h1
  new := fun h h' => by
    by_cases e : st1.S = none
    · obtain ⟨k1, k2⟩ := q.new e h'
      refine ⟨?_, ?_⟩
      · cases e2 : H sd2.1 with
        | none => rfl
        | some o =>
          have := p.keep _ o e2 (fun z => absurd h z)
          rw [k1] at this; cases this
      · cases e2 : H sd2.2 with
        | none => rfl
        | some o =>
          have := p.keep _ o e2 (fun z => absurd h z)
          rw [k2] at this; cases this
    · obtain ⟨_, rfl⟩ := q.sdk e
      exact p.new h e
  shp := fun i => by
    rcases p.shp i with w | ⟨es, w1, w2⟩
    · rcases q.shp i with z | ⟨ds, z1, z2⟩
      · exact .inl (z.trans w)
      · exact .inr ⟨ds, by rw [← w]; exact z1, z2⟩
    · rcases q.shp i with z | ⟨ds, z1, z2⟩
      · exact .inr ⟨es, w1, z.trans w2⟩
      · rw [w2] at z1; cases z1

/-- a thing that is read: a value, or a list that may still be changed -/
def Pk (K : PySem.W.Frag) (st : Stt) (sd : Addr × Addr) (G H : Hp) (v : V) (d : D) : Prop :=
  En K G v d ∨ ∃ a vs ds, v = .ref a ∧ d = .list ds ∧ H a = some (.lst vs) ∧ EnL K G vs ds ∧ Apart st.S sd a
theorem Pk.post {v : V} {d : D} (p : Post K st sd G σ H st1 sd1 G1 H1) (h : Pk K st sd G H v d) : Pk K st1 sd1 G1 H1 v d := by
  rcases h with h | ⟨a, vs, ds, rfl, rfl, h1, h2, h3⟩
  · exact .inl (h.mono p.ext)
  · exact .inr ⟨a, vs, ds, rfl, rfl, p.keep _ _ h1 h3, h2.mono p.ext, p.apart h1 h3⟩
theorem Pk.en {v : V} {d : D} (r : Rel K st sd G σ H) (h : Pk K st sd G H v d) : En K H v d := by
  rcases h with h | ⟨a, vs, ds, rfl, rfl, h1, h2, h3⟩
  · exact h.mono r.sub
  · exact .lst h1 (h2.mono r.sub)
theorem Pk.list {v : V} {ds : List D} (r : Rel K st sd G σ H) (h : Pk K st sd G H v (.list ds)) : ∃ a vs, v = .ref a ∧ H a = some (.lst vs) ∧ EnL K G vs ds ∧ Apart st.S sd a := by
  rcases h with h | ⟨a, vs, es, rfl, e, h1, h2, h3⟩
  · cases h with
    | lst h1 h2 => exact ⟨_, _, rfl, r.sub _ _ h1, h2, r.apart h1⟩
  · cases e
    exact ⟨a, vs, rfl, h1, h2, h3⟩
theorem Pk.tuple {v : V} {ds : List D} (h : Pk K st sd G H v (.tuple ds)) : ∃ a vs, v = .ref a ∧ SqT K G a vs ∧ EnL K G vs ds := by
  rcases h with h | ⟨a, vs, es, rfl, e, h1, h2, h3⟩
  · cases h with
    | tup h1 h2 => exact ⟨_, _, rfl, h1, h2⟩
  · cases e
theorem Pk.int {v : V} {i : Int} (h : Pk K st sd G H v (.int i)) : v = .int i := by
  rcases h with h | ⟨a, vs, es, rfl, e, h1, h2, h3⟩
  · cases h; rfl
  · cases e
theorem Pk.bool {v : V} {b : Bool} (h : Pk K st sd G H v (.bool b)) : v = .bl b := by
  rcases h with h | ⟨a, vs, es, rfl, e, h1, h2, h3⟩
  · cases h; rfl
  · cases e
theorem Pk.str {v : V} {b : Str} (h : Pk K st sd G H v (.str b)) : v = .str b := by
  rcases h with h | ⟨a, vs, es, rfl, e, h1, h2, h3⟩
  · cases h; rfl
  · cases e
theorem Pk.none {v : V} (h : Pk K st sd G H v .none) : v = .non := by
  rcases h with h | ⟨a, vs, es, rfl, e, h1, h2, h3⟩
  · cases h; rfl
  · cases e

/-- a result and its value; H is the heap ahead -/
def RRel (K : PySem.W.Frag) (H : Hp) (st' : Stt) (sd' : Addr × Addr) (G' : Hp) (σ : List (Option V)) (H' : Hp) : R → V → Prop
  | .val d, v => En K G' v d
  | .new ds, v => ∃ a vs, v = .ref a ∧ H' a = some (.lst vs) ∧ EnL K G' vs ds ∧ G' a = none ∧ H a = none ∧ Apart st'.S sd' a
  | .bor i, v => σ[i]? = some (some v) ∧ ((∃ ds, st'.γ[i]? = some (.own ds)) ∨ ∃ d, st'.γ[i]? = some (.val d))
  | .src, v => v = .ref sd'.1 ∧ st'.S ≠ none
  | .scr ns, v => ∃ a, v = .ref a ∧ SqL K G' a (ns.map V.int)

def toV : R → Stt → Option (D × Stt)
  | .val d, st => some (d, st)
  | .new ds, st => some (.list ds, st)
  | .bor i, st => match st.γ[i]? with
    | some (.own ds) => some (.list ds, { st with γ := st.γ.set i (.val (.list ds)) })
    | some (.val d) => some (d, st)
    | _ => none
  | .src, _ => none
  | .scr _, _ => none
def pk : R → Stt → Option D
  | .val d, _ => some d
  | .new ds, _ => some (.list ds)
  | .bor i, st => match st.γ[i]? with
    | some (.own ds) => some (.list ds)
    | some (.val d) => some d
    | _ => none
  | .src, _ => none
  | .scr _, _ => none
theorem RRel.pk {r : R} {v : V} {d : D} (q : Rel K st' sd' G' σ H') (h : RRel K H st' sd' G' σ H' r v) (e : pk r st' = some d) : Pk K st' sd' G' H' v d := by
  cases r with
  | val d' => cases e; exact .inl h
  | new ds =>
    cases e
    obtain ⟨a, vs, rfl, h1, h2, h3, h4, h5⟩ := h
    exact .inr ⟨a, vs, ds, rfl, rfl, h1, h2, h5⟩
  | bor i =>
    obtain ⟨h2, ⟨ds, h1⟩ | ⟨d', h1⟩⟩ := h
    · simp only [DE.pk, h1] at e
      cases e
      obtain ⟨a, vs, h3, h4, h5, h6, h7⟩ := q.sl i _ h1
      rw [h2] at h3; cases h3
      exact .inr ⟨a, vs, ds, rfl, rfl, h4, h6, h7⟩
    · simp only [DE.pk, h1] at e
      cases e
      obtain ⟨w, h3, h4⟩ := q.sl i _ h1
      rw [h2] at h3; cases h3
      exact .inl h4
  | src => cases e
  | scr => cases e

/-- more is frozen: an object that no slot owns but (perhaps) slot i, which is then a value -/
theorem Rel.freeze {a : Addr} {vs : List V} {ds : List D} (r : Rel K st sd G σ H) (ha : H a = some (.lst vs)) (hg : G a = none) (hs : Apart st.S sd a) (hl : EnL K G vs ds)
    (no : ∀ (i : Nat) (es : List D), st.γ[i]? = some (.own es) → σ[i]? ≠ some (some (.ref a))) : Rel K st sd (upd G a (.lst vs)) σ H := by
  have hsame : Same G (upd G a (.lst vs)) := fun b o h => by rw [upd_ne (ne_of_none h hg)]; exact h
  refine ⟨fun b o h => ?_, r.len, fun i x h => ?_, r.dis, fun s h => ?_⟩
  · by_cases e : b = a
    · subst e; rw [upd_same] at h; cases h; exact ha
    · rw [upd_ne e] at h; exact r.sub _ _ h
  · have q := r.sl i x h
    cases x with
    | un => trivial
    | val d =>
      obtain ⟨v, h1, h2⟩ := q
      exact ⟨v, h1, h2.mono hsame⟩
    | own es =>
      obtain ⟨b, ws, h1, h2, h3, h4, h5⟩ := q
      have hb : b ≠ a := fun z => no i es h (z ▸ h1)
      exact ⟨b, ws, h1, h2, by rw [upd_ne hb]; exact h3, h4.mono hsame, h5⟩
    | src => exact q
    | cel => exact q
    | scr ns =>
      obtain ⟨b, h1, h2⟩ := q
      exact ⟨b, h1, hsame.seq h2⟩
  · obtain ⟨h1, h2, h3, h4⟩ := r.src s h
    have hn : st.S ≠ none := by rw [h]; simp
    obtain ⟨k1, k2⟩ := hs hn
    exact ⟨h1, by rw [upd_ne k1.symm]; exact h2, by rw [upd_ne k2.symm]; exact h3, h4⟩
theorem same_upd {a : Addr} {o : HO} (hg : G a = none) : Same G (upd G a o) := fun b u h => by rw [upd_ne (ne_of_none h hg)]; exact h

/-- what a slot owns behind, it owned ahead; that list stood ahead -/
theorem Post.owned {i : Nat} {es : List D} {a : Addr} (q0 : Rel K st sd G σ H) (p : Post K st sd G σ H st1 sd1 G1 H1) (q : st1.γ[i]? = some (.own es)) (z : σ[i]? = some (some (.ref a))) : st.γ[i]? = some (.own es) ∧ ∃ vs, H a = some (.lst vs) := by
  have q' : st.γ[i]? = some (.own es) := by
    rcases p.shp i with w | ⟨fs, w1, w2⟩
    · rw [← w]; exact q
    · rw [w2] at q; cases q
  obtain ⟨b, ws, k1, k2, _⟩ := q0.sl i _ q'
  rw [z] at k1; cases k1
  exact ⟨q', ws, k2⟩

/-- a result made a value -/
theorem Post.toV {r : R} {v : V} {d : D} (q0 : Rel K st sd G σ H) (p : Post K st sd G σ H st1 sd1 G1 H1) (h : RRel K H st1 sd1 G1 σ H1 r v) (e : DE.toV r st1 = some (d, st2)) :
    ∃ G2, Post K st sd G σ H st2 sd1 G2 H1 ∧ En K G2 v d := by
  cases r with
  | val d' => cases e; exact ⟨G1, p, h⟩
  | new ds =>
    cases e
    obtain ⟨a, vs, rfl, h1, h2, h3, h4, h5⟩ := h
    have no : ∀ (i : Nat) (es : List D), st1.γ[i]? = some (.own es) → σ[i]? ≠ some (some (.ref a)) := fun i es q z => by
      obtain ⟨_, ws, k⟩ := p.owned q0 q z
      rw [h4] at k; cases k
    refine ⟨upd G1 a (.lst vs), ⟨p.rel.freeze h1 h3 h5 h2 no, p.ext.trans (same_upd h3), p.keep, fun b hb hb' => ?_, p.sdk, p.new, p.shp⟩, .lst upd_same (h2.mono (same_upd h3))⟩
    by_cases e : b = a
    · subst e; exact .inl h4
    · rw [upd_ne e] at hb'; exact p.dom b hb hb'
  | bor i =>
    obtain ⟨h2, ⟨ds, h1⟩ | ⟨d', h1⟩⟩ := h
    case inr =>
      simp only [DE.toV, h1] at e
      cases e
      obtain ⟨w, h3, h4⟩ := p.rel.sl i _ h1
      rw [h2] at h3; cases h3
      exact ⟨G1, p, h4⟩
    simp only [DE.toV, h1] at e
    cases e
    obtain ⟨a, vs, h3, h4, h5, h6, h7⟩ := p.rel.sl i _ h1
    rw [h2] at h3; cases h3
    have hsame : Same G1 (upd G1 a (.lst vs)) := same_upd h5
    have hi : i < st1.γ.length := (List.getElem?_eq_some_iff.mp h1).1
    refine ⟨upd G1 a (.lst vs), ⟨?_, p.ext.trans hsame, p.keep, fun b hb hb' => ?_, p.sdk, p.new, fun j => ?_⟩, .lst upd_same (h6.mono hsame)⟩
    · have rel2 : Rel K { st1 with γ := st1.γ.set i .un } sd1 G1 σ H1 := by
        refine ⟨p.rel.sub, by simpa using p.rel.len, fun j x e => ?_, fun j k es fs b e1 e2 => ?_, p.rel.src⟩
        · by_cases hj : i = j
          · subst hj
            rw [List.getElem?_set_self hi] at e; cases e; trivial
          · rw [List.getElem?_set_ne hj] at e; exact p.rel.sl j x e
        · by_cases hj : i = j
          · subst hj
            rw [List.getElem?_set_self hi] at e1; cases e1
          · by_cases hk : i = k
            · subst hk
              rw [List.getElem?_set_self hi] at e2; cases e2
            · rw [List.getElem?_set_ne hj] at e1
              rw [List.getElem?_set_ne hk] at e2
              exact p.rel.dis j k es fs b e1 e2
      have rel3 := rel2.freeze h4 h5 h7 h6 (fun j es e z => by
        by_cases hj : i = j
        · subst hj
          rw [List.getElem?_set_self hi] at e; cases e
        · rw [List.getElem?_set_ne hj] at e
          exact hj (p.rel.dis i j _ _ a h1 e h2 z))
      refine ⟨rel3.sub, by simpa using p.rel.len, fun j x e => ?_, fun j k es fs b e1 e2 => ?_, rel3.src⟩
      · by_cases hj : i = j
        · subst hj
          rw [List.getElem?_set_self hi] at e; cases e
          exact ⟨.ref a, h2, .lst upd_same (h6.mono hsame)⟩
        · rw [List.getElem?_set_ne hj] at e
          exact rel3.sl j x (by show (st1.γ.set i .un)[j]? = _; rw [List.getElem?_set_ne hj]; exact e)
      · by_cases hj : i = j
        · subst hj
          rw [List.getElem?_set_self hi] at e1; cases e1
        · by_cases hk : i = k
          · subst hk
            rw [List.getElem?_set_self hi] at e2; cases e2
          · rw [List.getElem?_set_ne hj] at e1
            rw [List.getElem?_set_ne hk] at e2
            exact p.rel.dis j k es fs b e1 e2
    · by_cases e : b = a
      · subst e
        refine .inr ⟨i, ds, ?_, h2⟩
        exact (p.owned q0 h1 h2).1
      · rw [upd_ne e] at hb'; exact p.dom b hb hb'
    · by_cases hj : i = j
      · subst hj
        refine .inr ⟨ds, (p.owned q0 h1 h2).1, ?_⟩
        show (st1.γ.set i _)[i]? = _
        rw [List.getElem?_set_self hi]
      · show (st1.γ.set i _)[j]? = _ ∨ ∃ ds, _ ∧ (st1.γ.set i _)[j]? = _
        rw [List.getElem?_set_ne hj]
        exact p.shp j
  | src => cases e
  | scr => cases e
end
end DE

set_option Elab.async false
set_option linter.all false
set_option maxRecDepth 100000
set_option maxHeartbeats 4000000
set_option autoImplicit false
/-! tuple * int, for any int. -/
namespace DE
open PySem PySem.Spec PyProof.Rows L2

theorem tm_same (l : Addr) (xs : Array Value) (m : Nat) (x : Int) (u : Tok) (h0 : (decide (x < -(2 ^ 63)) || decide (x ≥ 2 ^ 63)) = false) (h1 : (xs.isEmpty || x == 1) = true) :
    Meets (Builtin.«tuple.__mul__» ⟨[.ref l, .int x u], []⟩) (fun _ R s => (∃ dd sl, s.heap.get? l = some { cls := .type "tuple", dict := dd, data := .seq xs m, slots := sl }) ∧ R (.ok (.ret (.ref l))) s) :=
  .of_wp fun prog w A R s h => by
    obtain ⟨hp, g, d, tk, os⟩ := s
    obtain ⟨⟨dd, sl, hl⟩, h⟩ := h
    wp_walk using wpAny_loadPart' hl
    repeat (first
      | (refine wpAny_ite_false (decide_eq_false (by rw [h0]; exact Bool.false_ne_true)) ?_; wp_walk using wpAny_loadPart' hl)
      | (refine wpAny_ite_true (decide_eq_true h1) ?_; wp_walk using wpAny_loadPart' hl))
    exact ⟨_, rfl, h⟩
theorem tm_none (l : Addr) (xs : Array Value) (m : Nat) (x : Int) (u : Tok) (h0 : (decide (x < -(2 ^ 63)) || decide (x ≥ 2 ^ 63)) = false) (h1 : (xs.isEmpty || x == 1) = false) (h2 : (decide (x ≤ 0) || xs.isEmpty) = true) :
    Meets (Builtin.«tuple.__mul__» ⟨[.ref l, .int x u], []⟩) (fun _ R s => (∃ dd sl, s.heap.get? l = some { cls := .type "tuple", dict := dd, data := .seq xs m, slots := sl }) ∧
      R (.ok (.ret (Value.ref s.heap.objs.size))) { s with heap := s.heap.push { cls := Value.type "tuple", data := Data.seq #[] }, toks := s.toks }) :=
  .of_wp fun prog w A R s h => by
    obtain ⟨hp, g, d, tk, os⟩ := s
    obtain ⟨⟨dd, sl, hl⟩, h⟩ := h
    wp_walk using wpAny_loadPart' hl
    repeat (first
      | (refine wpAny_ite_false (decide_eq_false (by rw [h0]; exact Bool.false_ne_true)) ?_; wp_walk using wpAny_loadPart' hl)
      | (refine wpAny_ite_false (decide_eq_false (by rw [h1]; exact Bool.false_ne_true)) ?_; wp_walk using wpAny_loadPart' hl)
      | (refine wpAny_ite_true (decide_eq_true h2) ?_; wp_walk using wpAny_loadPart' hl))
    exact ⟨_, rfl, h⟩
def rRepA (K : PySem.W.Frag) : R2 := fun x y H Q => ∃ l k xs, x = .ref l ∧ y = .int k ∧ SqT K H l xs ∧ k ≤ 1000 ∧ -(2 ^ 62) ≤ k ∧ xs.length ≤ 1000 ∧
  ((xs = [] ∨ k = 1) → Q (.ref l) H) ∧ (xs ≠ [] → k ≤ 0 → ∀ p, H p = none → Q (.ref p) (upd H p (.tup []))) ∧ (xs ≠ [] → 2 ≤ k → ∀ p, H p = none → Q (.ref p) (upd H p (.tup (List.replicate k.toNat xs).flatten)))
theorem op_repA {X : Cx} : OpR X (binaryOp .Mult) (rRepA X.K) := by
  intro pins s σ H x y v u Q I rx ry h
  obtain ⟨l, k, xs, rfl, rfl, hT, hk, hk2, hz, q1, q2, q3⟩ := h
  by_cases big : xs ≠ [] ∧ 2 ≤ k
  · exact op_repT pins s σ H _ _ v u Q I rx ry ⟨l, k, xs, rfl, rfl, hT, big.1, big.2, hk, hz, q3 big.1 big.2⟩
  cases rx
  obtain ⟨t, rfl⟩ := ry
  obtain ⟨its, r, pl, hs⟩ := I.tuple hT
  obtain ⟨⟨cls, dd, data, sl⟩, ho, hc, n, hd⟩ := id pl
  simp only at hc hd
  subst hc hd
  have hle : its.length = xs.length := r.length.symm
  have h0 : (decide (k < -(2 ^ 63)) || decide (k ≥ 2 ^ 63)) = false := by
    rw [decide_eq_false (by omega), decide_eq_false (by omega)] <;> rfl
  have emp : its.toArray.isEmpty = true ↔ xs = [] := by
    rw [List.isEmpty_toArray, List.isEmpty_iff]
    constructor
    · intro z; subst z; exact List.eq_nil_of_length_eq_zero hle.symm
    · intro z; subst z; exact List.eq_nil_of_length_eq_zero hle
  have road : ∀ {Q0 : Value → Shared → Prop}, wpAny (model X.prog X.w) X.A (call (.builtin "tuple.__mul__") [.ref l, .int k t]) Q0 X.xe s → wpAny (model X.prog X.w) X.A (binaryOp .Mult (.ref l) (.int k t)) Q0 X.xe s := fun hcall =>
    wpAny_binaryOp_repeat_ref (T := "tuple") (U := "int") (by decide) ⟨_, ho, rfl⟩ (fun s' => typeIs_int s' k t) noFill_tuple_mul F.fills_int_mul F.slot_int_rmul repeat_tuple F.slot_int_index.lookup
      (call_meets F.slot_int_rmul (typeIs_int s k t) F.entry_int_rmul (F.args_int_rmul_2 _ _) (int_rmul_tuple k t l its.toArray n dd sl) ⟨ho, rfl, ⟨_, ho, rfl⟩, hcall⟩)
  by_cases same : xs = [] ∨ k = 1
  · have h1 : (its.toArray.isEmpty || k == 1) = true := by
      rcases same with z | z
      · rw [emp.mpr z]; rfl
      · subst z; simp
    refine road (call_meets F.slot_tuple_mul ⟨_, ho, rfl⟩ F.entry_tuple_mul (F.args_tuple_mul_2 _ _) (tm_same l its.toArray n k t h0 h1) ⟨⟨dd, sl, ho⟩, ⟨.ref l, H, I, rfl, q1 same⟩⟩)
  · have h1 : (its.toArray.isEmpty || k == 1) = false := by
      rw [Bool.eq_false_iff]
      intro z
      simp only [Bool.or_eq_true, beq_iff_eq] at z
      exact same (z.imp emp.mp id)
    have ne : xs ≠ [] := fun z => same (.inl z)
    have kk : k ≤ 0 := by
      by_cases z : 2 ≤ k
      · exact absurd ⟨ne, z⟩ big
      · have : k ≠ 1 := fun z => same (.inr z)
        omega
    refine road (call_meets F.slot_tuple_mul ⟨_, ho, rfl⟩ F.entry_tuple_mul (F.args_tuple_mul_2 _ _) (tm_none l its.toArray n k t h0 h1 (by simp [kk])) ⟨⟨dd, sl, ho⟩, ?_⟩)
    refine ⟨.ref s.heap.objs.size, _, I.laid (t' := s.toks) (o := .tup []) (fun b ob q => Heap.get?_push_of_some _ q) (Nat.le_refl _) ?_, rfl, q2 ne kk _ (I.hok.fresh (Nat.le_refl _))⟩
    exact ⟨by simp, _, .nil, IsTup.new _ _⟩
/-! lists of different lengths -/
theorem ln_differ (l : Addr) (xs : Array Value) (m : Nat) (b : Addr) (ys : Array Value) (m2 : Nat) (h0 : (xs.size != ys.size) = true) :
    Meets (Builtin.«list.__ne__» ⟨[.ref l, .ref b], []⟩) (fun _ R s => s.heap.get? l = some { cls := .type "list", data := .seq xs m } ∧ s.heap.get? b = some { cls := .type "list", data := .seq ys m2 } ∧ R (.ok (.ret (Value.bool true))) s) :=
  .of_wp fun prog w A R s h => by
    obtain ⟨hp, g, d, tk, os⟩ := s
    obtain ⟨hl, hb, h⟩ := h
    have f3 := AutoSeq1.sub_list_list
    wp_walk using wpAny_loadPart' hl, wpAny_loadPart' hb
    exact ⟨_, rfl, h⟩
theorem op_lenEq {X : Cx} (hu : X.A.units < cLine) : OpR X (compareOp .Eq) (fun x y H Q => ∃ a b xs ys, x = .ref a ∧ y = .ref b ∧ H a = some (.lst xs) ∧ H b = some (.lst ys) ∧ xs.length ≠ ys.length ∧ Q (.bl false) H) := by
  intro pins s σ H x y v u Q I rx ry h
  obtain ⟨a, b, xs, ys, rfl, rfl, h1, h2, h3, q⟩ := h
  cases rx
  cases ry
  obtain ⟨its, n, r, e, hz⟩ := I.lst h1
  obtain ⟨its2, n2, r2, e2, hz2⟩ := I.lst h2
  refine P.eq_list_lengths e e2 ?_ hu ⟨.bl false, H, I, rfl, q⟩
  rw [List.size_toArray, List.size_toArray, ← r.length, ← r2.length]
  simpa using h3
theorem op_lenNe {X : Cx} (hu : X.A.units < cLine) : OpR X (compareOp .NotEq) (fun x y H Q => ∃ a b xs ys, x = .ref a ∧ y = .ref b ∧ H a = some (.lst xs) ∧ H b = some (.lst ys) ∧ xs.length ≠ ys.length ∧ Q (.bl true) H) := by
  intro pins s σ H x y v u Q I rx ry h
  obtain ⟨a, b, xs, ys, rfl, rfl, h1, h2, h3, q⟩ := h
  cases rx
  cases ry
  obtain ⟨its, n, r, e, hz⟩ := I.lst h1
  obtain ⟨its2, n2, r2, e2, hz2⟩ := I.lst h2
  have hsz : (its.toArray.size != its2.toArray.size) = true := by
    rw [List.size_toArray, List.size_toArray, ← r.length, ← r2.length]
    simpa using h3
  refine richCompare_meets_room (op := .NotEq) ⟨_, e, rfl⟩ ⟨_, e2, rfl⟩ F.slot_list_ne F.entry_list_ne (F.args_list_ne_2 _ _) (ln_differ a its.toArray n b its2.toArray n2 hsz) ⟨e, e2, ?_⟩ hu
  exact ⟨(fun x => nomatch x), ⟨.bl true, H, I, rfl, q⟩⟩
end DE

set_option Elab.async false
set_option linter.all false
set_option maxRecDepth 100000
set_option maxHeartbeats 2000000
set_option autoImplicit false
/-! What the operators do on data. -/
namespace DE
open PySem PySem.Spec PyProof.Rows L2

section
variable {K : PySem.W.Frag} {st : Stt} {sd : Addr × Addr} {G H : Hp} {σ : List (Option V)}
theorem Rel.apartN (r : Rel K st sd G σ H) {p : Addr} (hp : H p = none) : Apart st.S sd p := fun hn => by
  cases e : st.S with
  | none => exact absurd e hn
  | some s =>
    obtain ⟨⟨k1, k2⟩, _⟩ := r.src s e
    exact ⟨fun z => (by rw [z, k1] at hp; cases hp), fun z => (by rw [z, k2] at hp; cases hp)⟩
theorem Rel.noneG (r : Rel K st sd G σ H) {p : Addr} (hp : H p = none) : G p = none := by
  cases e : G p with
  | none => rfl
  | some o => rw [r.sub _ _ e] at hp; cases hp
/-- a new object that nothing knows yet -/
theorem Rel.fresh (r : Rel K st sd G σ H) {p : Addr} {o : HO} (hp : H p = none) : Rel K st sd G σ (upd H p o) := by
  have hs : Same H (upd H p o) := same_upd hp
  refine ⟨r.sub.trans hs, r.len, fun i x e => ?_, r.dis, fun s e => ?_⟩
  · have q := r.sl i x e
    cases x with
    | un => trivial
    | val d => exact q
    | own ds =>
      obtain ⟨a, vs, h1, h2, h3⟩ := q
      exact ⟨a, vs, h1, hs _ _ h2, h3⟩
    | src => exact q
    | cel => exact q
    | scr ns => exact q
  · obtain ⟨⟨k1, k2⟩, k3⟩ := r.src s e
    exact ⟨⟨hs _ _ k1, hs _ _ k2⟩, k3⟩
/-- a new object, a value at once -/
theorem Rel.freshG (r : Rel K st sd G σ H) {p : Addr} {o : HO} (hp : H p = none) : Rel K st sd (upd G p o) σ (upd H p o) := by
  have hs : Same H (upd H p o) := same_upd hp
  have hg : Same G (upd G p o) := same_upd (r.noneG hp)
  refine ⟨fun b u e => ?_, r.len, fun i x e => ?_, r.dis, fun s e => ?_⟩
  · by_cases z : b = p
    · subst z; rw [upd_same] at e ⊢; exact e
    · rw [upd_ne z] at e ⊢; exact r.sub _ _ e
  · have q := r.sl i x e
    cases x with
    | un => trivial
    | val d =>
      obtain ⟨v, h1, h2⟩ := q
      exact ⟨v, h1, h2.mono hg⟩
    | own ds =>
      obtain ⟨a, vs, h1, h2, h3, h4, h5⟩ := q
      have ha : a ≠ p := ne_of_none h2 hp
      exact ⟨a, vs, h1, hs _ _ h2, by rw [upd_ne ha]; exact h3, h4.mono hg, h5⟩
    | src => exact q
    | cel => exact q
    | scr ns =>
      obtain ⟨b, h1, h2⟩ := q
      exact ⟨b, h1, hg.seq h2⟩
  · obtain ⟨⟨k1, k2⟩, k3, k4, k5⟩ := r.src s e
    exact ⟨⟨hs _ _ k1, hs _ _ k2⟩, by rw [upd_ne (ne_of_none k1 hp)]; exact k3, by rw [upd_ne (ne_of_none k2 hp)]; exact k4, k5⟩
theorem Rel.postN (r : Rel K st sd G σ H) {p : Addr} {o : HO} (hp : H p = none) : Post K st sd G σ H st sd G (upd H p o) :=
  ⟨r.fresh hp, Same.refl _, fun a u h _ => same_upd hp a u h, fun a h h' => absurd h h', fun h => ⟨h, rfl⟩, fun h h' => absurd h h', fun _ => .inl rfl⟩
theorem Rel.postG (r : Rel K st sd G σ H) {p : Addr} {o : HO} (hp : H p = none) : Post K st sd G σ H st sd (upd G p o) (upd H p o) :=
  ⟨r.freshG hp, same_upd (r.noneG hp), fun a u h _ => same_upd hp a u h, fun a h h' => by
    by_cases z : a = p
    · subst z; exact .inl hp
    · rw [upd_ne z] at h'; exact absurd h h', fun h => ⟨h, rfl⟩, fun h h' => absurd h h', fun _ => .inl rfl⟩
theorem Rel.newL (r : Rel K st sd G σ H) {p : Addr} {vs : List V} {ds : List D} (hp : H p = none) (hl : EnL K G vs ds) : RRel K H st sd G σ (upd H p (.lst vs)) (.new ds) (.ref p) :=
  ⟨p, vs, rfl, upd_same, hl, r.noneG hp, hp, r.apartN hp⟩
theorem Rel.newT (r : Rel K st sd G σ H) {p : Addr} {vs : List V} {ds : List D} (hp : H p = none) (hl : EnL K G vs ds) : En K (upd G p (.tup vs)) (.ref p) (.tuple ds) :=
  .tup (SqT.of upd_same) (hl.mono (same_upd (r.noneG hp)))
end

/-- an operation on two things that are read -/
def rBD (K : PySem.W.Frag) (bd : D → D → Option R) : R2 := fun x y H Q => ∃ st sd G σ d1 d2 r, Rel K st sd G σ H ∧ Pk K st sd G H x d1 ∧ Pk K st sd G H y d2 ∧ bd d1 d2 = some r ∧
  ∀ v G' H', Post K st sd G σ H st sd G' H' → RRel K H st sd G' σ H' r v → Q v H'
def rUD (K : PySem.W.Frag) (ud : D → Option R) : V → Hp → VK → Prop := fun x H Q => ∃ st sd G σ d r, Rel K st sd G σ H ∧ Pk K st sd G H x d ∧ ud d = some r ∧
  ∀ v G' H', Post K st sd G σ H st sd G' H' → RRel K H st sd G' σ H' r v → Q v H'
/-- a built-in called with things that are read -/
def rCD (K : PySem.W.Frag) (cd : List D → Option R) : List V → Hp → VK → Prop := fun xs H Q => ∃ st sd G σ ds r, Rel K st sd G σ H ∧ Paired (Pk K st sd G H) xs ds ∧ cd ds = some r ∧
  ∀ v G' H', Post K st sd G σ H st sd G' H' → RRel K H st sd G' σ H' r v → Q v H'

/-- the most items of a list here -/
def most : Nat := 1000000
theorem most_le {n : Nat} (h : n ≤ most) : n ≤ sizeLine := by rw [sizeLine_eq]; unfold most at h; omega
theorem most_lt {n : Nat} (h : n ≤ most) : n < sizeLine := by rw [sizeLine_eq]; unfold most at h; omega

def addD : D → D → Option R
  | .int a, .int b => some (.val (.int (a + b)))
  | .list xs, .list ys => if xs.length + ys.length ≤ most then some (.new (xs ++ ys)) else none
  | .tuple xs, .tuple ys => if xs.length + ys.length ≤ most then some (.val (.tuple (xs ++ ys))) else none
  | .str a, .str b => if a.length + b.length ≤ most then some (.val (.str (a ++ b))) else none
  | _, _ => none
def subD : D → D → Option R
  | .int a, .int b => some (.val (.int (a - b)))
  | _, _ => none
def bits (a : Int) : Nat := a.natAbs.log2
def mulD : D → D → Option R
  | .int a, .int b => if bits a + bits b < 1000000 ∨ a.natAbs < 2 ^ 64 ∨ b.natAbs < 2 ^ 64 then some (.val (.int (a * b))) else none
  | .list xs, .int k => if k ≤ most ∧ -(2 ^ 62) ≤ k ∧ xs.length * k.toNat ≤ most then some (.new (List.replicate k.toNat xs).flatten) else none
  | .tuple xs, .int k => if k ≤ 1000 ∧ -(2 ^ 62) ≤ k ∧ xs.length ≤ 1000 then some (.val (.tuple (List.replicate k.toNat xs).flatten)) else none
  | _, _ => none
def fdivD : D → D → Option R
  | .int a, .int b => if b ≠ 0 ∧ bits b < 9000 then some (.val (.int (a.fdiv b))) else none
  | _, _ => none
def modD : D → D → Option R
  | .int a, .int b => if b ≠ 0 then some (.val (.int (a.fmod b))) else none
  | _, _ => none
def powD : D → D → Option R
  | .int a, .int b => if 0 ≤ b ∧ b ≤ 10000 ∧ a.natAbs < 2 ^ 64 then some (.val (.int (a ^ b.toNat))) else none
  | _, _ => none
def negD : D → Option R
  | .int a => some (.val (.int (-a)))
  | _ => none
section
variable {X : Cx}
theorem op_mulX : OpR X (binaryOp .Mult) (rI CMulW fun i j => .int (i * j)) := op_mulW
theorem op_fdivX : OpR X (binaryOp .FloorDiv) (rI (fun _ j => j ≠ 0 ∧ j.natAbs.log2 < 9000) fun i j => .int (i.fdiv j)) := opI fun i j _ _ _ _ _ hc q => floordiv_int hc.1 q (.inl (PyProof.noPylong_of_log2 hc.2))

theorem od_add : OpR X (binaryOp .Add) (rBD X.K addD) := by
  intro pins s σ0 H x y v u Q I rx ry h
  obtain ⟨st, sd, G, σ, d1, d2, r, rel, p1, p2, e, q⟩ := h
  unfold addD at e
  split at e
  · cases e
    obtain rfl := p1.int
    obtain rfl := p2.int
    exact op_add pins s σ0 H _ _ v u Q I rx ry ⟨_, _, rfl, rfl, q _ G H (.refl rel) (.int _)⟩
  · split at e
    · rename_i hz
      cases e
      obtain ⟨a, vs, rfl, h1, h2, h3⟩ := p1.list rel
      obtain ⟨b, ws, rfl, k1, k2, k3⟩ := p2.list rel
      refine op_cat pins s σ0 H _ _ v u Q I rx ry ⟨a, b, vs, ws, rfl, rfl, h1, k1, ?_, fun p hp => q _ G _ (rel.postN hp) (rel.newL hp (h2.append k2))⟩
      rw [h2.length, k2.length]; exact most_le hz
    · cases e
  · split at e
    · rename_i xs ys hz
      cases e
      obtain ⟨a, vs, rfl, h1, h2⟩ := p1.tuple
      obtain ⟨b, ws, rfl, k1, k2⟩ := p2.tuple
      refine op_catA pins s σ0 H _ _ v u Q I rx ry ⟨a, b, vs, ws, rfl, rfl, sqT_mono rel.sub h1, sqT_mono rel.sub k1, ?_, fun z => ?_, fun _ z => ?_, fun _ _ p hp => q _ _ _ (rel.postG hp) (rel.newT hp (h2.append k2))⟩
      · rw [h2.length, k2.length]; exact most_le hz
      · subst z
        have e1 := h2.length
        have e2 : xs = [] := List.eq_nil_of_length_eq_zero e1.symm
        subst e2
        exact q _ G H (.refl rel) (.tup k1 k2)
      · subst z
        have e1 := k2.length
        have e2 : ys = [] := List.eq_nil_of_length_eq_zero e1.symm
        subst e2
        rw [List.append_nil] at q
        exact q _ G H (.refl rel) (.tup h1 h2)
    · cases e
  · split at e
    · rename_i hz
      cases e
      obtain rfl := p1.str
      obtain rfl := p2.str
      exact op_add_str pins s σ0 H _ _ v u Q I rx ry ⟨_, _, rfl, rfl, most_le hz, q _ G H (.refl rel) (.str _)⟩
    · cases e
  · cases e
theorem od_sub : OpR X (binaryOp .Sub) (rBD X.K subD) := by
  intro pins s σ0 H x y v u Q I rx ry h
  obtain ⟨st, sd, G, σ, d1, d2, r, rel, p1, p2, e, q⟩ := h
  unfold subD at e
  split at e
  · cases e
    obtain rfl := p1.int
    obtain rfl := p2.int
    exact op_sub pins s σ0 H _ _ v u Q I rx ry ⟨_, _, rfl, rfl, q _ G H (.refl rel) (.int _)⟩
  · cases e
theorem rep_nil {α : Type} (m : Nat) : (List.replicate m ([] : List α)).flatten = [] := by induction m <;> simp_all [List.replicate_succ]
theorem rep_one {α : Type} (xs : List α) : (List.replicate (1 : Int).toNat xs).flatten = xs := by simp
theorem rep_low {α : Type} {k : Int} (h : k ≤ 0) {xs : List α} : (List.replicate k.toNat xs).flatten = [] := by rw [Int.toNat_of_nonpos h]; rfl
theorem od_mul : OpR X (binaryOp .Mult) (rBD X.K mulD) := by
  intro pins s σ0 H x y v u Q I rx ry h
  obtain ⟨st, sd, G, σ, d1, d2, r, rel, p1, p2, e, q⟩ := h
  unfold mulD at e
  split at e
  · split at e
    · rename_i hz
      cases e
      obtain rfl := p1.int
      obtain rfl := p2.int
      rcases hz with hz | hz | hz
      · exact op_mulW pins s σ0 H _ _ v u Q I rx ry ⟨_, _, rfl, rfl, hz, q _ G H (.refl rel) (.int _)⟩
      · exact op_mul pins s σ0 H _ _ v u Q I rx ry ⟨_, _, rfl, rfl, .inl ⟨by omega, by omega⟩, q _ G H (.refl rel) (.int _)⟩
      · exact op_mul pins s σ0 H _ _ v u Q I rx ry ⟨_, _, rfl, rfl, .inr ⟨by omega, by omega⟩, q _ G H (.refl rel) (.int _)⟩
    · cases e
  · split at e
    · rename_i hz
      cases e
      obtain ⟨a, vs, rfl, h1, h2, h3⟩ := p1.list rel
      obtain rfl := p2.int
      have hm : most = 1000000 := rfl
      refine op_rep pins s σ0 H _ _ v u Q I rx ry ⟨a, _, vs, rfl, rfl, h1, by omega, by omega, ?_, fun p hp => q _ G _ (rel.postN hp) (rel.newL hp (h2.rep _))⟩
      rw [h2.length]; exact most_le hz.2.2
    · cases e
  · split at e
    · rename_i hz
      cases e
      obtain ⟨a, vs, rfl, h1, h2⟩ := p1.tuple
      obtain rfl := p2.int
      obtain ⟨z1, z2, z3⟩ := hz
      refine op_repA pins s σ0 H _ _ v u Q I rx ry ⟨a, _, vs, rfl, rfl, sqT_mono rel.sub h1, z1, z2, by rw [h2.length]; exact z3, fun z => ?_, fun z1 z2 p hp => ?_, fun z1 z2 p hp => q _ _ _ (rel.postG hp) (rel.newT hp (h2.rep _))⟩
      · refine q _ G H (.refl rel) (.tup h1 ?_)
        rcases z with z | z
        · subst z
          cases h2
          rw [rep_nil]; exact .nil
        · subst z
          rw [rep_one]; exact h2
      · rw [rep_low z2] at q
        exact q _ _ _ (rel.postG hp) (rel.newT hp .nil)
    · cases e
  · cases e
theorem od_fdiv : OpR X (binaryOp .FloorDiv) (rBD X.K fdivD) := by
  intro pins s σ0 H x y v u Q I rx ry h
  obtain ⟨st, sd, G, σ, d1, d2, r, rel, p1, p2, e, q⟩ := h
  unfold fdivD at e
  split at e
  · split at e
    · rename_i hz
      cases e
      obtain rfl := p1.int
      obtain rfl := p2.int
      exact op_fdivX pins s σ0 H _ _ v u Q I rx ry ⟨_, _, rfl, rfl, hz, q _ G H (.refl rel) (.int _)⟩
    · cases e
  · cases e
theorem od_mod : OpR X (binaryOp .Mod) (rBD X.K modD) := by
  intro pins s σ0 H x y v u Q I rx ry h
  obtain ⟨st, sd, G, σ, d1, d2, r, rel, p1, p2, e, q⟩ := h
  unfold modD at e
  split at e
  · split at e
    · rename_i hz
      cases e
      obtain rfl := p1.int
      obtain rfl := p2.int
      exact op_modN pins s σ0 H _ _ v u Q I rx ry ⟨_, _, rfl, rfl, hz, q _ G H (.refl rel) (.int _)⟩
    · cases e
  · cases e
theorem od_pow : OpR X (binaryOp .Pow) (rBD X.K powD) := by
  intro pins s σ0 H x y v u Q I rx ry h
  obtain ⟨st, sd, G, σ, d1, d2, r, rel, p1, p2, e, q⟩ := h
  unfold powD at e
  split at e
  · split at e
    · rename_i hz
      cases e
      obtain rfl := p1.int
      obtain rfl := p2.int
      exact op_pow pins s σ0 H _ _ v u Q I rx ry ⟨_, _, rfl, rfl, ⟨hz.1, by omega, hz.2.2⟩, q _ G H (.refl rel) (.int _)⟩
    · cases e
  · cases e
theorem ud_neg : UnR X (unaryOp .USub) (rUD X.K negD) := by
  intro pins s σ0 H x v Q I rx h
  obtain ⟨st, sd, G, σ, d1, r, rel, p1, e, q⟩ := h
  unfold negD at e
  split at e
  · cases e
    obtain rfl := p1.int
    exact un_neg pins s σ0 H _ v Q I rx ⟨_, rfl, q _ G H (.refl rel) (.int _)⟩
  · cases e

/-! ### comparisons -/
mutual
theorem En.dp {K : PySem.W.Frag} {H : Hp} : ∀ {v : V} {d : D}, En K H v d → d.canLay0 = true → Dp K H v d
  | _, _, .non, _ => .non
  | _, _, .bl b, _ => .bl b
  | _, _, .int i, _ => .int i
  | _, _, .str x, _ => .str x
  | _, _, .lst h l, e => .lst (SqL.of h) (l.dp (by simpa [PyData.canLay0] using e))
  | _, _, .tup h l, e => .tup h (l.dp (by simpa [PyData.canLay0] using e))
  | _, _, .dic0 h, e => by simp [PyData.canLay0] at e
theorem EnL.dp {K : PySem.W.Frag} {H : Hp} : ∀ {v : List V} {d : List D}, EnL K H v d → PyData.canLayAll0 d = true → DpAll K H v d
  | _, _, .nil, _ => .nil
  | _, _, .cons h l, e => by
    have e' := e
    simp only [PyData.canLayAll0, Bool.and_eq_true] at e'
    exact .cons (h.dp e'.1) (l.dp e'.2)
end
def eqD : D → D → Option R
  | .str a, .str b => some (.val (.bool (decide (a = b))))
  | .list xs, .list ys => if xs.length ≠ ys.length then some (.val (.bool false)) else if SeqAt.shaped (.list xs) = true ∧ SeqAt.shaped (.list ys) = true then some (.val (.bool (PyData.eqv (.list xs) (.list ys)))) else none
  | d, e => if SeqAt.shaped d = true ∧ SeqAt.shaped e = true then some (.val (.bool (PyData.eqv d e))) else none
def neD : D → D → Option R
  | .str a, .str b => some (.val (.bool (!decide (a = b))))
  | .list xs, .list ys => if xs.length ≠ ys.length then some (.val (.bool true)) else if SeqAt.shaped (.list xs) = true ∧ SeqAt.shaped (.list ys) = true then some (.val (.bool (!PyData.eqv (.list xs) (.list ys)))) else none
  | d, e => if SeqAt.shaped d = true ∧ SeqAt.shaped e = true then some (.val (.bool (!PyData.eqv d e))) else none
theorem dstr {a b : Str} : decide (V.str a = V.str b) = decide (a = b) := by
  by_cases h : a = b
  · subst h; simp
  · simp [h]
theorem od_eq (hu : X.A.units + 64 < cLine) : OpR X (compareOp .Eq) (rBD X.K eqD) := by
  intro pins s σ0 H x y v u Q I rx ry h
  obtain ⟨st, sd, G, σ, d1, d2, r, rel, p1, p2, e, q⟩ := h
  unfold eqD at e
  split at e
  · cases e
    obtain rfl := p1.str
    obtain rfl := p2.str
    exact op_eq pins s σ0 H _ _ v u Q I rx ry ⟨rfl, by rw [dstr]; exact q _ G H (.refl rel) (.bl _)⟩
  · rename_i xs ys
    split at e
    · rename_i hz
      cases e
      obtain ⟨a, vs, rfl, h1, h2, h3⟩ := p1.list rel
      obtain ⟨b, ws, rfl, k1, k2, k3⟩ := p2.list rel
      exact op_lenEq (by omega) pins s σ0 H _ _ v u Q I rx ry ⟨a, b, vs, ws, rfl, rfl, h1, k1, by rw [h2.length, k2.length]; exact hz, q _ G H (.refl rel) (.bl _)⟩
    · split at e
      · rename_i hz
        cases e
        exact op_eqD hu pins s σ0 H _ _ v u Q I rx ry ⟨_, _, (p1.en rel).dp (SeqAt.canLay_of_shaped hz.1), (p2.en rel).dp (SeqAt.canLay_of_shaped hz.2), hz.1, hz.2, q _ G H (.refl rel) (.bl _)⟩
      · cases e
  split at e
  · rename_i hz
    cases e
    exact op_eqD hu pins s σ0 H _ _ v u Q I rx ry ⟨d1, d2, (p1.en rel).dp (SeqAt.canLay_of_shaped hz.1), (p2.en rel).dp (SeqAt.canLay_of_shaped hz.2), hz.1, hz.2, q _ G H (.refl rel) (.bl _)⟩
  · cases e
theorem od_ne (hu : X.A.units + 64 < cLine) : OpR X (compareOp .NotEq) (rBD X.K neD) := by
  intro pins s σ0 H x y v u Q I rx ry h
  obtain ⟨st, sd, G, σ, d1, d2, r, rel, p1, p2, e, q⟩ := h
  unfold neD at e
  split at e
  · cases e
    obtain rfl := p1.str
    obtain rfl := p2.str
    exact op_ne pins s σ0 H _ _ v u Q I rx ry ⟨rfl, by rw [dstr]; exact q _ G H (.refl rel) (.bl _)⟩
  · rename_i xs ys
    split at e
    · rename_i hz
      cases e
      obtain ⟨a, vs, rfl, h1, h2, h3⟩ := p1.list rel
      obtain ⟨b, ws, rfl, k1, k2, k3⟩ := p2.list rel
      exact op_lenNe (by omega) pins s σ0 H _ _ v u Q I rx ry ⟨a, b, vs, ws, rfl, rfl, h1, k1, by rw [h2.length, k2.length]; exact hz, q _ G H (.refl rel) (.bl _)⟩
    · split at e
      · rename_i hz
        cases e
        exact op_neD hu pins s σ0 H _ _ v u Q I rx ry ⟨_, _, (p1.en rel).dp (SeqAt.canLay_of_shaped hz.1), (p2.en rel).dp (SeqAt.canLay_of_shaped hz.2), hz.1, hz.2, q _ G H (.refl rel) (.bl _)⟩
      · cases e
  split at e
  · rename_i hz
    cases e
    exact op_neD hu pins s σ0 H _ _ v u Q I rx ry ⟨d1, d2, (p1.en rel).dp (SeqAt.canLay_of_shaped hz.1), (p2.en rel).dp (SeqAt.canLay_of_shaped hz.2), hz.1, hz.2, q _ G H (.refl rel) (.bl _)⟩
  · cases e
def ltD : D → D → Option R
  | .int a, .int b => some (.val (.bool (decide (a < b))))
  | _, _ => none
def leD : D → D → Option R
  | .int a, .int b => some (.val (.bool (decide (a ≤ b))))
  | _, _ => none
def gtD : D → D → Option R
  | .int a, .int b => some (.val (.bool (decide (b < a))))
  | _, _ => none
def geD : D → D → Option R
  | .int a, .int b => some (.val (.bool (decide (b ≤ a))))
  | _, _ => none
theorem od_lt : OpR X (compareOp .Lt) (rBD X.K ltD) := by
  intro pins s σ0 H x y v u Q I rx ry h
  obtain ⟨st, sd, G, σ, d1, d2, r, rel, p1, p2, e, q⟩ := h
  unfold ltD at e
  split at e
  · cases e
    obtain rfl := p1.int
    obtain rfl := p2.int
    exact op_lt pins s σ0 H _ _ v u Q I rx ry ⟨_, _, rfl, rfl, q _ G H (.refl rel) (.bl _)⟩
  · cases e
theorem od_le : OpR X (compareOp .LtE) (rBD X.K leD) := by
  intro pins s σ0 H x y v u Q I rx ry h
  obtain ⟨st, sd, G, σ, d1, d2, r, rel, p1, p2, e, q⟩ := h
  unfold leD at e
  split at e
  · cases e
    obtain rfl := p1.int
    obtain rfl := p2.int
    exact op_le pins s σ0 H _ _ v u Q I rx ry ⟨_, _, rfl, rfl, q _ G H (.refl rel) (.bl _)⟩
  · cases e
theorem od_gt : OpR X (compareOp .Gt) (rBD X.K gtD) := by
  intro pins s σ0 H x y v u Q I rx ry h
  obtain ⟨st, sd, G, σ, d1, d2, r, rel, p1, p2, e, q⟩ := h
  unfold gtD at e
  split at e
  · cases e
    obtain rfl := p1.int
    obtain rfl := p2.int
    exact op_gt pins s σ0 H _ _ v u Q I rx ry ⟨_, _, rfl, rfl, q _ G H (.refl rel) (.bl _)⟩
  · cases e
theorem od_ge : OpR X (compareOp .GtE) (rBD X.K geD) := by
  intro pins s σ0 H x y v u Q I rx ry h
  obtain ⟨st, sd, G, σ, d1, d2, r, rel, p1, p2, e, q⟩ := h
  unfold geD at e
  split at e
  · cases e
    obtain rfl := p1.int
    obtain rfl := p2.int
    exact op_ge pins s σ0 H _ _ v u Q I rx ry ⟨_, _, rfl, rfl, q _ G H (.refl rel) (.bl _)⟩
  · cases e
/-! in, not in, of flat items -/
def flatD : D → Bool
  | .none => true
  | .bool _ => true
  | .int _ => true
  | .str _ => true
  | _ => false
def eqF : D → D → Bool
  | .none, .none => true
  | .bool a, .bool b => a == b
  | .bool a, .int b => (if a then 1 else 0) == b
  | .int a, .bool b => a == (if b then 1 else 0)
  | .int a, .int b => a == b
  | .str a, .str b => a == b
  | _, _ => false
def memD : D → D → Option R
  | d, .list ds => if flatD d = true ∧ ds.all flatD = true then some (.val (.bool (ds.any fun z => eqF z d))) else if SeqAt.shaped d = true ∧ SeqAt.shaped (.list ds) = true then some (.val (.bool (ds.any fun z => PyData.eqv z d))) else none
  | d, .tuple ds => if flatD d = true ∧ ds.all flatD = true then some (.val (.bool (ds.any fun z => eqF z d))) else if SeqAt.shaped d = true ∧ SeqAt.shaped (.tuple ds) = true then some (.val (.bool (ds.any fun z => PyData.eqv z d))) else none
  | _, _ => none
def nmemD : D → D → Option R
  | d, .list ds => if flatD d = true ∧ ds.all flatD = true then some (.val (.bool (!ds.any fun z => eqF z d))) else if SeqAt.shaped d = true ∧ SeqAt.shaped (.list ds) = true then some (.val (.bool (!ds.any fun z => PyData.eqv z d))) else none
  | d, .tuple ds => if flatD d = true ∧ ds.all flatD = true then some (.val (.bool (!ds.any fun z => eqF z d))) else if SeqAt.shaped d = true ∧ SeqAt.shaped (.tuple ds) = true then some (.val (.bool (!ds.any fun z => PyData.eqv z d))) else none
  | _, _ => none
/-- in, not in, of a tuple of any shaped things -/
def rInT (K : PySem.W.Frag) : R2 := fun x y H Q => ∃ d ds, Dp K H x d ∧ Dp K H y (.tuple ds) ∧ SeqAt.shaped d = true ∧ SeqAt.shaped (.tuple ds) = true ∧ Q (.bl (ds.any fun z => PyData.eqv z d)) H
def rNotInT (K : PySem.W.Frag) : R2 := fun x y H Q => ∃ d ds, Dp K H x d ∧ Dp K H y (.tuple ds) ∧ SeqAt.shaped d = true ∧ SeqAt.shaped (.tuple ds) = true ∧ Q (.bl (!ds.any fun z => PyData.eqv z d)) H
theorem op_inT {X : Cx} (hu : X.A.units + 65 < cLine) : OpR X (compareOp .In) (rInT X.K) := by
  intro pins s σ H x y v u Q I rx ry h
  obtain ⟨d, ds, hd, he, sd, se, q⟩ := h
  obtain ⟨as, r1⟩ := Dp.reads I d x v hd rx
  obtain ⟨bs, r2⟩ := Dp.reads I (.tuple ds) y u he ry
  exact SeqAt.in_tuple_reads r2 r1 (SeqAt.canLay_of_shaped se) (SeqAt.canLay_of_shaped sd) (room_in_shaped sd hu) ⟨.bl _, H, I, rfl, q⟩
theorem op_notInT {X : Cx} (hu : X.A.units + 65 < cLine) : OpR X (compareOp .NotIn) (rNotInT X.K) := by
  intro pins s σ H x y v u Q I rx ry h
  obtain ⟨d, ds, hd, he, sd, se, q⟩ := h
  obtain ⟨as, r1⟩ := Dp.reads I d x v hd rx
  obtain ⟨bs, r2⟩ := Dp.reads I (.tuple ds) y u he ry
  exact SeqAt.notIn_tuple_reads r2 r1 (SeqAt.canLay_of_shaped se) (SeqAt.canLay_of_shaped sd) (room_in_shaped sd hu) ⟨.bl _, H, I, rfl, q⟩
theorem En.flat {K : PySem.W.Frag} {G : Hp} {v : V} {d : D} (h : En K G v d) (f : flatD d = true) : flatV v = true := by
  cases h <;> first | rfl | cases f
theorem En.eqF {K : PySem.W.Frag} {G G' : Hp} {v w : V} {d e : D} (h : En K G v d) (f : flatD d = true) (h2 : En K G' w e) (f2 : flatD e = true) : eqV w v = DE.eqF e d := by
  cases h <;> first | (cases f; done) | (cases h2 <;> first | rfl | (cases f2; done))
theorem EnL.flat {K : PySem.W.Frag} {G : Hp} : ∀ {vs : List V} {ds : List D}, EnL K G vs ds → ds.all flatD = true → vs.all flatV = true
  | _, _, .nil, _ => rfl
  | _, _, .cons h l, f => by
    rw [List.all_cons, Bool.and_eq_true] at f
    rw [List.all_cons, Bool.and_eq_true]
    exact ⟨h.flat f.1, l.flat f.2⟩
theorem EnL.inV {K : PySem.W.Frag} {G G' : Hp} {x : V} {d : D} (h : En K G' x d) (f : flatD d = true) : ∀ {vs : List V} {ds : List D}, EnL K G vs ds → ds.all flatD = true → L2.inV x vs = ds.any fun z => eqF z d
  | _, _, .nil, _ => rfl
  | _, _, .cons h2 l, f2 => by
    rw [List.all_cons, Bool.and_eq_true] at f2
    have ih := EnL.inV h f l f2.2
    unfold L2.inV at ih ⊢
    rw [List.any_cons, List.any_cons, ih, h.eqF f h2 f2.1]
theorem od_mem (hu : X.A.units + 65 < cLine) : OpR X (compareOp .In) (rBD X.K memD) := by
  intro pins s σ0 H x y v u Q I rx ry h
  obtain ⟨st, sd, G, σ, d1, d2, r, rel, p1, p2, e, q⟩ := h
  unfold memD at e
  split at e
  · split at e
    · rename_i hz
      cases e
      obtain ⟨b, ws, rfl, k1, k2, k3⟩ := p2.list rel
      have ex := p1.en rel
      exact op_in_seq pins s σ0 H _ _ v u Q I rx ry ⟨b, ws, rfl, .inl (SqL.of k1), ex.flat hz.1, k2.flat hz.2, by rw [if_neg (by simp), EnL.inV ex hz.1 k2 hz.2]; exact q _ G H (.refl rel) (.bl _)⟩
    · split at e
      · rename_i hz
        cases e
        exact op_inD hu pins s σ0 H _ _ v u Q I rx ry ⟨_, _, (p1.en rel).dp (SeqAt.canLay_of_shaped hz.1), (p2.en rel).dp (SeqAt.canLay_of_shaped hz.2), hz.1, hz.2, q _ G H (.refl rel) (.bl _)⟩
      · cases e
  · split at e
    · rename_i hz
      cases e
      obtain ⟨b, ws, rfl, k1, k2⟩ := p2.tuple
      have ex := p1.en rel
      exact op_in_seq pins s σ0 H _ _ v u Q I rx ry ⟨b, ws, rfl, .inr (sqT_mono rel.sub k1), ex.flat hz.1, k2.flat hz.2, by rw [if_neg (by simp), EnL.inV ex hz.1 k2 hz.2]; exact q _ G H (.refl rel) (.bl _)⟩
    · split at e
      · rename_i hz
        cases e
        exact op_inT hu pins s σ0 H _ _ v u Q I rx ry ⟨_, _, (p1.en rel).dp (SeqAt.canLay_of_shaped hz.1), (p2.en rel).dp (SeqAt.canLay_of_shaped hz.2), hz.1, hz.2, q _ G H (.refl rel) (.bl _)⟩
      · cases e
  · cases e
theorem od_nmem (hu : X.A.units + 65 < cLine) : OpR X (compareOp .NotIn) (rBD X.K nmemD) := by
  intro pins s σ0 H x y v u Q I rx ry h
  obtain ⟨st, sd, G, σ, d1, d2, r, rel, p1, p2, e, q⟩ := h
  unfold nmemD at e
  split at e
  · split at e
    · rename_i hz
      cases e
      obtain ⟨b, ws, rfl, k1, k2, k3⟩ := p2.list rel
      have ex := p1.en rel
      exact op_notIn_seq pins s σ0 H _ _ v u Q I rx ry ⟨b, ws, rfl, .inl (SqL.of k1), ex.flat hz.1, k2.flat hz.2, by rw [if_pos (by simp), EnL.inV ex hz.1 k2 hz.2]; exact q _ G H (.refl rel) (.bl _)⟩
    · split at e
      · rename_i hz
        cases e
        exact op_notInD hu pins s σ0 H _ _ v u Q I rx ry ⟨_, _, (p1.en rel).dp (SeqAt.canLay_of_shaped hz.1), (p2.en rel).dp (SeqAt.canLay_of_shaped hz.2), hz.1, hz.2, q _ G H (.refl rel) (.bl _)⟩
      · cases e
  · split at e
    · rename_i hz
      cases e
      obtain ⟨b, ws, rfl, k1, k2⟩ := p2.tuple
      have ex := p1.en rel
      exact op_notIn_seq pins s σ0 H _ _ v u Q I rx ry ⟨b, ws, rfl, .inr (sqT_mono rel.sub k1), ex.flat hz.1, k2.flat hz.2, by rw [if_pos (by simp), EnL.inV ex hz.1 k2 hz.2]; exact q _ G H (.refl rel) (.bl _)⟩
    · split at e
      · rename_i hz
        cases e
        exact op_notInT hu pins s σ0 H _ _ v u Q I rx ry ⟨_, _, (p1.en rel).dp (SeqAt.canLay_of_shaped hz.1), (p2.en rel).dp (SeqAt.canLay_of_shaped hz.2), hz.1, hz.2, q _ G H (.refl rel) (.bl _)⟩
      · cases e
  · cases e
/-- is None, is not None -/
def isD : D → D → Option R
  | .none, .none => some (.val (.bool true))
  | _, .none => some (.val (.bool false))
  | .bool a, .bool b => some (.val (.bool (decide (a = b))))
  | _, _ => none
def isnD : D → D → Option R
  | .none, .none => some (.val (.bool false))
  | _, .none => some (.val (.bool true))
  | .bool a, .bool b => some (.val (.bool (!decide (a = b))))
  | _, _ => none
theorem Pk.non_iff {K : PySem.W.Frag} {st : Stt} {sd : Addr × Addr} {G H : Hp} {x : V} {d : D} (h : Pk K st sd G H x d) : decide (x = .non) = (match d with | .none => true | _ => false) := by
  rcases h with h | ⟨a, vs, ds, rfl, rfl, _⟩
  · cases h <;> simp
  · simp
theorem od_is : OpR X (compareOp .Is) (rBD X.K isD) := by
  intro pins s σ0 H x y v u Q I rx ry h
  obtain ⟨st, sd, G, σ, d1, d2, r, rel, p1, p2, e, q⟩ := h
  have hn := p1.non_iff
  cases d2 with
  | none =>
    obtain rfl := p2.none
    refine op_isN pins s σ0 H _ _ v u Q I rx ry ⟨rfl, ?_⟩
    rw [hn]
    cases d1 <;> (simp only [isD, Option.some.injEq] at e; subst e; exact q _ G H (.refl rel) (.bl _))
  | bool b =>
    cases d1 with
    | bool a =>
      obtain rfl := p1.bool
      obtain rfl := p2.bool
      cases e
      exact op_isBl pins s σ0 H _ _ v u Q I rx ry ⟨_, _, rfl, rfl, q _ G H (.refl rel) (.bl _)⟩
    | _ => simp [isD] at e
  | _ => cases d1 <;> simp [isD] at e
theorem od_isn : OpR X (compareOp .IsNot) (rBD X.K isnD) := by
  intro pins s σ0 H x y v u Q I rx ry h
  obtain ⟨st, sd, G, σ, d1, d2, r, rel, p1, p2, e, q⟩ := h
  have hn := p1.non_iff
  cases d2 with
  | none =>
    obtain rfl := p2.none
    refine op_notN pins s σ0 H _ _ v u Q I rx ry ⟨rfl, ?_⟩
    rw [hn]
    cases d1 <;> (simp only [isnD, Option.some.injEq] at e; subst e; exact q _ G H (.refl rel) (.bl _))
  | bool b =>
    cases d1 with
    | bool a =>
      obtain rfl := p1.bool
      obtain rfl := p2.bool
      cases e
      exact op_notBl pins s σ0 H _ _ v u Q I rx ry ⟨_, _, rfl, rfl, q _ G H (.refl rel) (.bl _)⟩
    | _ => simp [isnD] at e
  | _ => cases d1 <;> simp [isnD] at e
/-! ### items, slices -/
def ixD : D → D → Option R
  | .list xs, .int i => (atI xs i).map .val
  | .tuple xs, .int i => (atI xs i).map .val
  | _, _ => none
theorem EnL.at {K : PySem.W.Frag} {G : Hp} {vs : List V} {ds : List D} {i : Int} {d : D} (h : EnL K G vs ds) (e : atI ds i = some d) : ∃ v, atI vs i = some v ∧ En K G v d := by
  unfold atI at e ⊢
  rw [h.length]
  cases q : ixN ds.length i with
  | none => rw [q] at e; cases e
  | some j =>
    rw [q] at e
    obtain ⟨v, h1, h2⟩ := h.get (show ds[j]? = some d from e)
    exact ⟨v, h1, h2⟩
theorem od_ix : IxR X (rBD X.K ixD) := by
  intro va sl pins s σ0 H x y v u Q I rx ry h hs
  obtain ⟨st, sd, G, σ, d1, d2, r, rel, p1, p2, e, q⟩ := h
  unfold ixD at e
  split at e
  · rename_i xs i
    cases e2 : atI xs i with
    | none => rw [e2] at e; cases e
    | some d =>
      rw [e2] at e; cases e
      obtain rfl := p2.int
      obtain ⟨a, vs, rfl, h1, h2, h3⟩ := p1.list rel
      obtain ⟨w, k1, k2⟩ := h2.at e2
      exact ix_list va sl pins s σ0 H _ _ v u Q I rx ry ⟨a, vs, _, w, rfl, rfl, SqL.of h1, k1, q _ G H (.refl rel) k2⟩ hs
  · rename_i xs i
    cases e2 : atI xs i with
    | none => rw [e2] at e; cases e
    | some d =>
      rw [e2] at e; cases e
      obtain rfl := p2.int
      obtain ⟨a, vs, rfl, h1, h2⟩ := p1.tuple
      obtain ⟨w, k1, k2⟩ := h2.at e2
      exact ix_tup va sl pins s σ0 H _ _ v u Q I rx ry ⟨a, vs, _, w, rfl, rfl, sqT_mono rel.sub h1, k1, q _ G H (.refl rel) k2⟩ hs
  · cases e
def cutD (ds : List D) (lo hi : Option Int) : List D := (ds.drop (HT.sIx ds.length 0 lo)).take (HT.sIx ds.length ds.length hi - HT.sIx ds.length 0 lo)
theorem EnL.cut {K : PySem.W.Frag} {G : Hp} {vs : List V} {ds : List D} {lo hi : Option Int} (h : EnL K G vs ds) : EnL K G (cutV vs lo hi) (cutD ds lo hi) := by
  unfold cutV cutD
  rw [h.length]
  exact (h.drop _).take _
/-- x[lo:hi] -/
def slD : D → Option Int → Option Int → Option R
  | .list xs, lo, hi => some (.new (cutD xs lo hi))
  | .tuple xs, lo, hi => some (.val (.tuple (cutD xs lo hi)))
  | _, _, _ => none
def rSD (K : PySem.W.Frag) : V → Option Int → Option Int → Hp → VK → Prop := fun x lo hi H Q => ∃ st sd G σ d r, Rel K st sd G σ H ∧ Pk K st sd G H x d ∧ slD d lo hi = some r ∧
  ∀ v G' H', Post K st sd G σ H st sd G' H' → RRel K H st sd G' σ H' r v → Q v H'
theorem cut_whole {α : Type} (xs : List α) {lo hi : Option Int} (h : HT.sIx xs.length 0 lo = 0 ∧ HT.sIx xs.length xs.length hi = xs.length) : (xs.drop (HT.sIx xs.length 0 lo)).take (HT.sIx xs.length xs.length hi - HT.sIx xs.length 0 lo) = xs := by
  rw [h.1, h.2]; simp
theorem od_sl : SlR X (rSD X.K) := by
  intro pins s σ0 H x v vl vu lo hi sl Q I rx hs pl pu h
  obtain ⟨st, sd, G, σ, d, r, rel, p1, e, q⟩ := h
  unfold slD at e
  split at e
  · cases e
    obtain ⟨a, vs, rfl, h1, h2, h3⟩ := p1.list rel
    exact sl_list pins s σ0 H _ v vl vu _ _ sl Q I rx hs pl pu ⟨a, vs, rfl, SqL.of h1, fun p hp => q _ G _ (rel.postN hp) (rel.newL hp h2.cut)⟩
  · rename_i xs
    cases e
    obtain ⟨a, vs, rfl, h1, h2⟩ := p1.tuple
    refine sl_tupA pins s σ0 H _ v vl vu _ _ sl Q I rx hs pl pu ⟨a, vs, rfl, sqT_mono rel.sub h1, fun z => ?_, fun _ p hp => q _ _ _ (rel.postG hp) (rel.newT hp h2.cut)⟩
    have e1 : cutD xs lo hi = xs := by
      unfold cutD
      exact cut_whole xs (by rw [← h2.length]; exact z)
    rw [e1] at q
    exact q _ G H (.refl rel) (.tup h1 h2)
  · cases e
end
end DE

set_option Elab.async false
set_option linter.all false
set_option maxRecDepth 100000
set_option maxHeartbeats 2000000
set_option autoImplicit false
/-! What the built-ins do on data. -/
namespace DE
open PySem PySem.Spec PyProof.Rows L2

/-! ### what is read off the heap -/
mutual
def noLst : D → Bool
  | .list _ => false
  | .tuple xs => noLstAll xs
  | _ => true
def noLstAll : List D → Bool
  | [] => true
  | x :: xs => noLst x && noLstAll xs
end
section
variable {X : Cx} {pins : List (Addr × Obj)} {σ0 : List (Option V)} {H : Hp} {s : Shared}
mutual
theorem En.reads (I : Inv X pins σ0 H s) : ∀ (d : D) (v : V) (u : Value), En X.K H v d → RelV v u → ∃ as, Reads s.heap u d as ∧ (noLst d = true → sysModules ∉ as)
  | .none, _, _, h, r => by
    cases h; cases r; exact ⟨_, Reads.none, by simp⟩
  | .bool b, _, _, h, r => by
    cases h; cases r; exact ⟨_, Reads.bool b, by simp⟩
  | .int i, _, _, h, r => by
    cases h; obtain ⟨t, rfl⟩ := r; exact ⟨_, Reads.int i t, by simp⟩
  | .str x, _, _, h, r => by
    cases h; obtain ⟨t, rfl⟩ := r; exact ⟨_, Reads.str x t, by simp⟩
  | .list ds, _, _, h, r => by
    cases h with
    | lst hs ha =>
      cases r
      obtain ⟨its, rv, ⟨o, n, ho, hc, _, hd⟩, _⟩ := I.list (SqL.of hs)
      obtain ⟨as, hr, _⟩ := En.readsAll I ds _ its ha rv
      exact ⟨_, Reads.list ho hc hd hr, by simp [noLst]⟩
  | .tuple ds, _, _, h, r => by
    cases h with
    | tup hs ha =>
      cases r
      obtain ⟨its, rv, ⟨o, ho, hc, n, hd⟩, _⟩ := I.tuple hs
      obtain ⟨as, hr, hn⟩ := En.readsAll I ds _ its ha rv
      exact ⟨_, Reads.tuple ho hc hd hr, by simpa [noLst] using hn⟩
  | .dict _, _, _, h, r => by
    cases h with
    | dic0 hs =>
      cases r
      obtain ⟨hz, hy, vs, kv, o, es, ep, e1, e2, e3, e4⟩ := I.hok _ _ hs
      cases kv
      have e5 : es = #[] := by
        obtain ⟨_, e6, _⟩ := e4
        have e7 := e6.length
        cases es with
        | mk l => cases l with
          | nil => rfl
          | cons a b => simp at e7
      subst e5
      refine ⟨_, Reads.dict (kvs := []) e1 e2.1 e3 (by simpa using ReadsAll.nil) (by simpa using ReadsAll.nil), fun _ => ?_⟩
      simp only [List.append_nil, List.mem_singleton]
      intro z
      rw [z] at hy
      simp at hy
theorem En.readsAll (I : Inv X pins σ0 H s) : ∀ (ds : List D) (vs : List V) (us : List Value), EnL X.K H vs ds → Vals vs us → ∃ as, ReadsAll s.heap us ds as ∧ (noLstAll ds = true → sysModules ∉ as)
  | [], _, _, h, r => by
    cases h; cases r; exact ⟨_, ReadsAll.nil, by simp⟩
  | d :: ds, _, _, h, r => by
    cases h with
    | cons h1 h2 =>
      cases r with
      | cons r1 r2 =>
        obtain ⟨as, q1, n1⟩ := En.reads I d _ _ h1 r1
        obtain ⟨bs, q2, n2⟩ := En.readsAll I ds _ _ h2 r2
        refine ⟨_, ReadsAll.cons q1 q2, fun e => ?_⟩
        have e' := e
        simp only [noLstAll, Bool.and_eq_true] at e'
        rw [List.mem_append]
        exact fun z => z.elim (n1 e'.1) (n2 e'.2)
end
end
/-- the text of any data -/
def reprD : List D → Option R
  | [d] => if d.showable = true ∧ d.depth ≤ 60 ∧ d.shown.length ≤ most ∧ (d.hasDict = false ∨ noLst d = true) then some (.val (.str d.shown)) else none
  | _ => none
theorem Paired.one {α β : Type} {F : α → β → Prop} {xs : List α} {y : β} (h : Paired F xs [y]) : ∃ x, xs = [x] ∧ F x y := by
  cases h with
  | cons a b => cases b; exact ⟨_, rfl, a⟩
theorem Paired.two {α β : Type} {F : α → β → Prop} {xs : List α} {y z : β} (h : Paired F xs [y, z]) : ∃ x w, xs = [x, w] ∧ F x y ∧ F w z := by
  cases h with
  | cons a b => cases b with
    | cons c d => cases d; exact ⟨_, _, rfl, a, c⟩
section
variable {X : Cx}
theorem od_repr (hg : X.A.guards = some []) (hu : X.A.units + 64 < cLine) : CallR X (.builtin "repr") (rCD X.K reprD) := by
  intro pins s σ0 H xs us Q I rx h
  obtain ⟨st, sd, G, σ, ds, r, rel, ps, e, q⟩ := h
  unfold reprD at e
  split at e
  · rename_i d
    split at e
    · rename_i hz
      cases e
      obtain ⟨x, rfl, p⟩ := Paired.one ps
      obtain ⟨u, rfl, ru⟩ := vals1 rx
      have en := p.en rel
      have fin : ∀ (h' : Heap) (tk : Nat) (t : Tok), (∀ b o, s.heap.get? b = some o → h'.get? b = some o) → EP X pins σ0 Q (.str d.shown t) { s with heap := h', toks := tk } := fun h' tk t hk =>
        ⟨.str d.shown, H, I.kept hk, ⟨t, rfl⟩, q _ G H (.refl rel) (.str _)⟩
      have isref : ∀ a, u = .ref a → wpAny (model X.prog X.w) X.A (call (.builtin "repr") [u]) (EP X pins σ0 Q) X.xe s := fun a e => by
        subst e
        obtain ⟨as, hr, hn⟩ := En.reads I d _ _ en ru
        refine repr_of_reads' hr hz.1 (fun e => hn ?_) hg (by have := hz.2.1; omega) (fun _ _ e => e) (fun h' u tk hk => fin h' tk u hk) (most_le hz.2.2.1)
        rcases hz.2.2.2 with z | z
        · rw [e] at z; cases z
        · exact z
      cases d with
      | none => cases en; cases ru; exact PySem.P.repr_of_none (fin s.heap _ _ (fun _ _ e => e))
      | bool b => cases en; cases ru; exact PySem.P.repr_of_bool (fin s.heap _ _ (fun _ _ e => e))
      | int i =>
        cases en; obtain ⟨t, rfl⟩ := ru
        exact PySem.P.repr_of_int (by simpa [PyData.showable] using hz.1) (fin s.heap _ _ (fun _ _ e => e))
      | str x =>
        cases en; obtain ⟨t, rfl⟩ := ru
        exact PySem.P.repr_of_str (fin s.heap _ _ (fun _ _ e => e)) (most_le hz.2.2.1)
      | list ds => cases en; exact isref _ ru
      | tuple ds => cases en; exact isref _ ru
      | dict ds => cases en; exact isref _ ru
    · cases e
  · cases e
def lenD : List D → Option R
  | [.list xs] => some (.val (.int xs.length))
  | [.tuple xs] => some (.val (.int xs.length))
  | [.str x] => if x.length ≤ most then some (.val (.int x.length)) else none
  | _ => none
theorem od_len : CallR X (.builtin "len") (rCD X.K lenD) := by
  intro pins s σ0 H xs us Q I rx h
  obtain ⟨st, sd, G, σ, ds, r, rel, ps, e, q⟩ := h
  unfold lenD at e
  split at e
  · cases e
    obtain ⟨x, rfl, p⟩ := Paired.one ps
    obtain ⟨a, vs, rfl, h1, h2, h3⟩ := p.list rel
    exact call_len pins s σ0 H _ us Q I rx ⟨_, vs.length, rfl, .inl ⟨vs, SqL.of h1, rfl⟩, q _ G H (.refl rel) (by rw [h2.length]; exact .int _)⟩
  · cases e
    obtain ⟨x, rfl, p⟩ := Paired.one ps
    obtain ⟨a, vs, rfl, h1, h2⟩ := p.tuple
    exact call_len pins s σ0 H _ us Q I rx ⟨_, vs.length, rfl, .inr ⟨vs, sqT_mono rel.sub h1, rfl⟩, q _ G H (.refl rel) (by rw [h2.length]; exact .int _)⟩
  · split at e
    · rename_i hz
      cases e
      obtain ⟨x, rfl, p⟩ := Paired.one ps
      obtain rfl := p.str
      exact call_len pins s σ0 H _ us Q I rx ⟨_, _, rfl, ⟨most_le hz, rfl⟩, q _ G H (.refl rel) (.int _)⟩
    · cases e
  · cases e
def absD : List D → Option R
  | [.int i] => some (.val (.int i.natAbs))
  | _ => none
theorem od_abs : CallR X (.builtin "abs") (rCD X.K absD) := by
  intro pins s σ0 H xs us Q I rx h
  obtain ⟨st, sd, G, σ, ds, r, rel, ps, e, q⟩ := h
  unfold absD at e
  split at e
  · rename_i i
    cases e
    obtain ⟨x, rfl, p⟩ := Paired.one ps
    obtain rfl := p.int
    refine call_abs pins s σ0 H _ us Q I rx ⟨_, rfl, q _ G H (.refl rel) ?_⟩
    have e2 : (if i < 0 then -i else i) = (i.natAbs : Int) := by split <;> omega
    rw [e2]; exact .int _
  · cases e
def int1D : List D → Option R
  | [.int i] => some (.val (.int i))
  | [.bool b] => some (.val (.int (if b then 1 else 0)))
  | _ => none
theorem od_int : CallR X (.type "int") (rCD X.K int1D) := by
  intro pins s σ0 H xs us Q I rx h
  obtain ⟨st, sd, G, σ, ds, r, rel, ps, e, q⟩ := h
  unfold int1D at e
  split at e
  · cases e
    obtain ⟨x, rfl, p⟩ := Paired.one ps
    obtain rfl := p.int
    exact call_int1 pins s σ0 H _ us Q I rx (.inl ⟨_, rfl, q _ G H (.refl rel) (.int _)⟩)
  · cases e
    obtain ⟨x, rfl, p⟩ := Paired.one ps
    obtain rfl := p.bool
    exact call_int1 pins s σ0 H _ us Q I rx (.inr ⟨_, rfl, q _ G H (.refl rel) (.int _)⟩)
  · cases e
def max2D : List D → Option R
  | [.int i, .int j] => some (.val (.int (max i j)))
  | _ => none
def min2D : List D → Option R
  | [.int i, .int j] => some (.val (.int (min i j)))
  | _ => none
theorem od_max2 (hc : X.calm = true) : CallR X (.builtin "max") (rCD X.K max2D) := by
  intro pins s σ0 H xs us Q I rx h
  obtain ⟨st, sd, G, σ, ds, r, rel, ps, e, q⟩ := h
  unfold max2D at e
  split at e
  · rename_i i j
    cases e
    obtain ⟨x, y, rfl, p1, p2⟩ := Paired.two ps
    obtain rfl := p1.int
    obtain rfl := p2.int
    refine call_max2 hc pins s σ0 H _ us Q I rx ⟨_, _, rfl, q _ G H (.refl rel) ?_⟩
    have e2 : (if j > i then j else i) = max i j := by split <;> omega
    rw [e2]; exact .int _
  · cases e
theorem od_min2 (hc : X.calm = true) : CallR X (.builtin "min") (rCD X.K min2D) := by
  intro pins s σ0 H xs us Q I rx h
  obtain ⟨st, sd, G, σ, ds, r, rel, ps, e, q⟩ := h
  unfold min2D at e
  split at e
  · rename_i i j
    cases e
    obtain ⟨x, y, rfl, p1, p2⟩ := Paired.two ps
    obtain rfl := p1.int
    obtain rfl := p2.int
    refine call_min2 hc pins s σ0 H _ us Q I rx ⟨_, _, rfl, q _ G H (.refl rel) ?_⟩
    have e2 : (if j < i then j else i) = min i j := by split <;> omega
    rw [e2]; exact .int _
  · cases e
def listD : List D → Option R
  | [.list xs] => some (.new xs)
  | [.tuple xs] => some (.new xs)
  | _ => none
theorem od_list : CallR X (.type "list") (rCD X.K listD) := by
  intro pins s σ0 H xs us Q I rx h
  obtain ⟨st, sd, G, σ, ds, r, rel, ps, e, q⟩ := h
  unfold listD at e
  split at e
  · cases e
    obtain ⟨x, rfl, p⟩ := Paired.one ps
    obtain ⟨a, vs, rfl, h1, h2, h3⟩ := p.list rel
    exact call_list_of pins s σ0 H _ us Q I rx ⟨a, vs, rfl, .inl (SqL.of h1), fun p hp => q _ G _ (rel.postN hp) (rel.newL hp h2)⟩
  · cases e
    obtain ⟨x, rfl, p⟩ := Paired.one ps
    obtain ⟨a, vs, rfl, h1, h2⟩ := p.tuple
    exact call_list_of pins s σ0 H _ us Q I rx ⟨a, vs, rfl, .inr (sqT_mono rel.sub h1), fun p hp => q _ G _ (rel.postN hp) (rel.newL hp h2)⟩
  · cases e
def tupleD : List D → Option R
  | [.list xs] => some (.val (.tuple xs))
  | [.tuple xs] => some (.val (.tuple xs))
  | _ => none
theorem od_tuple : CallR X (.type "tuple") (rCD X.K tupleD) := by
  intro pins s σ0 H xs us Q I rx h
  obtain ⟨st, sd, G, σ, ds, r, rel, ps, e, q⟩ := h
  unfold tupleD at e
  split at e
  · cases e
    obtain ⟨x, rfl, p⟩ := Paired.one ps
    obtain ⟨a, vs, rfl, h1, h2, h3⟩ := p.list rel
    exact call_tuple_of pins s σ0 H _ us Q I rx ⟨a, vs, rfl, .inl ⟨SqL.of h1, fun p hp => q _ _ _ (rel.postG hp) (rel.newT hp h2)⟩⟩
  · cases e
    obtain ⟨x, rfl, p⟩ := Paired.one ps
    obtain ⟨a, vs, rfl, h1, h2⟩ := p.tuple
    exact call_tuple_of pins s σ0 H _ us Q I rx ⟨a, vs, rfl, .inr ⟨sqT_mono rel.sub h1, q _ G H (.refl rel) (.tup h1 h2)⟩⟩
  · cases e
def boolsOf : List D → Option (List Bool)
  | [] => some []
  | .bool b :: r => (boolsOf r).map (b :: ·)
  | _ :: _ => none
def intsOf : List D → Option (List Int)
  | [] => some []
  | .int b :: r => (intsOf r).map (b :: ·)
  | _ :: _ => none
theorem EnL.bools {K : PySem.W.Frag} {G : Hp} : ∀ {ds : List D} {vs : List V} {bs : List Bool}, EnL K G vs ds → boolsOf ds = some bs → vs = bs.map V.bl
  | [], _, _, h, e => by cases h; cases e; rfl
  | d :: ds, _, bs, h, e => by
    cases h with
    | cons h1 h2 =>
      cases d with
      | bool b =>
        simp only [boolsOf, Option.map_eq_some_iff] at e
        obtain ⟨bs', e1, rfl⟩ := e
        cases h1
        rw [EnL.bools h2 e1]; rfl
      | _ => simp [boolsOf] at e
theorem EnL.ints {K : PySem.W.Frag} {G : Hp} : ∀ {ds : List D} {vs : List V} {bs : List Int}, EnL K G vs ds → intsOf ds = some bs → vs = bs.map V.int
  | [], _, _, h, e => by cases h; cases e; rfl
  | d :: ds, _, bs, h, e => by
    cases h with
    | cons h1 h2 =>
      cases d with
      | int b =>
        simp only [intsOf, Option.map_eq_some_iff] at e
        obtain ⟨bs', e1, rfl⟩ := e
        cases h1
        rw [EnL.ints h2 e1]; rfl
      | _ => simp [intsOf] at e
def allD : List D → Option R
  | [.list xs] => (boolsOf xs).map fun bs => .val (.bool (bs.all id))
  | _ => none
def anyD : List D → Option R
  | [.list xs] => (boolsOf xs).map fun bs => .val (.bool (bs.any id))
  | _ => none
def sumD : List D → Option R
  | [.list xs] => (intsOf xs).map fun bs => .val (.int bs.sum)
  | _ => none
theorem od_all (hc : X.calm = true) : CallR X (.builtin "all") (rCD X.K allD) := by
  intro pins s σ0 H xs us Q I rx h
  obtain ⟨st, sd, G, σ, ds, r, rel, ps, e, q⟩ := h
  unfold allD at e
  split at e
  · simp only [Option.map_eq_some_iff] at e
    obtain ⟨bs, e1, rfl⟩ := e
    obtain ⟨x, rfl, p⟩ := Paired.one ps
    obtain ⟨a, vs, rfl, h1, h2, h3⟩ := p.list rel
    obtain rfl := h2.bools e1
    exact cr_all hc pins s σ0 H _ us Q I rx ⟨a, bs, rfl, SqL.of h1, q _ G H (.refl rel) (.bl _)⟩
  · cases e
theorem od_any (hc : X.calm = true) : CallR X (.builtin "any") (rCD X.K anyD) := by
  intro pins s σ0 H xs us Q I rx h
  obtain ⟨st, sd, G, σ, ds, r, rel, ps, e, q⟩ := h
  unfold anyD at e
  split at e
  · simp only [Option.map_eq_some_iff] at e
    obtain ⟨bs, e1, rfl⟩ := e
    obtain ⟨x, rfl, p⟩ := Paired.one ps
    obtain ⟨a, vs, rfl, h1, h2, h3⟩ := p.list rel
    obtain rfl := h2.bools e1
    exact cr_any hc pins s σ0 H _ us Q I rx ⟨a, bs, rfl, SqL.of h1, q _ G H (.refl rel) (.bl _)⟩
  · cases e
theorem od_sum (hc : X.calm = true) : CallR X (.builtin "sum") (rCD X.K sumD) := by
  intro pins s σ0 H xs us Q I rx h
  obtain ⟨st, sd, G, σ, ds, r, rel, ps, e, q⟩ := h
  unfold sumD at e
  split at e
  · simp only [Option.map_eq_some_iff] at e
    obtain ⟨bs, e1, rfl⟩ := e
    obtain ⟨x, rfl, p⟩ := Paired.one ps
    obtain ⟨a, vs, rfl, h1, h2, h3⟩ := p.list rel
    obtain rfl := h2.ints e1
    exact cr_sum hc pins s σ0 H _ us Q I rx ⟨a, bs, rfl, SqL.of h1, q _ G H (.refl rel) (.int _)⟩
  · cases e
def gcdD : List D → Option R
  | [.int i, .int j] => some (.val (.int (Nat.gcd i.natAbs j.natAbs : Nat)))
  | _ => none
theorem od_gcd : CallR X (.builtin "math.gcd") (rCD X.K gcdD) := by
  intro pins s σ0 H xs us Q I rx h
  obtain ⟨st, sd, G, σ, ds, r, rel, ps, e, q⟩ := h
  unfold gcdD at e
  split at e
  · cases e
    obtain ⟨x, y, rfl, p1, p2⟩ := Paired.two ps
    obtain rfl := p1.int
    obtain rfl := p2.int
    exact cr_gcd pins s σ0 H _ us Q I rx ⟨_, _, rfl, q _ G H (.refl rel) (.int _)⟩
  · cases e
/-! ### isinstance -/
inductive Ty where
  | int | bool | str | tuple | list | dict
def Ty.name : Ty → String
  | .int => "int" | .bool => "bool" | .str => "str" | .tuple => "tuple" | .list => "list" | .dict => "dict"
inductive Kd where
  | none | bool | int | str | tuple | list | dict
def kd : D → Kd
  | .none => .none | .bool _ => .bool | .int _ => .int | .str _ => .str | .tuple _ => .tuple | .list _ => .list | .dict _ => .dict
def isK : Ty → Kd → Bool
  | .int, .int => true
  | .int, .bool => true
  | .bool, .bool => true
  | .str, .str => true
  | .tuple, .tuple => true
  | .list, .list => true
  | .dict, .dict => true
  | _, _ => false
def isB (t : Ty) (d : D) : Bool := isK t (kd d)
def Kd.name : Kd → String
  | .none => "NoneType" | .bool => "bool" | .int => "int" | .str => "str" | .tuple => "tuple" | .list => "list" | .dict => "dict"
def tyN (d : D) : String := (kd d).name
theorem En.tyX {K : PySem.W.Frag} {H : Hp} {v : V} {d : D} (h : En K H v d) : TyX K H v (.type (tyN d)) := by
  cases h with
  | non => exact .base .non
  | bl b => exact .base (.bl b)
  | int i => exact .base (.int i)
  | str x => exact .base (.str x)
  | lst h _ => exact .base (.lst h)
  | tup h _ =>
    rcases h with (h | ⟨o, h⟩) | ⟨o, its, n, h1, h2, _⟩
    · exact .base (.tup h)
    · exact .fTuple h
    · exact .kTuple h1 h2
  | dic0 h => exact .base (.dK h)
theorem kit_d {K : PySem.W.Frag} (t : Ty) (d : D) : PySem.W.kitOne K (.type (tyN d)) (.type t.name) = some (isB t d) := by
  unfold tyN isB
  generalize kd d = k
  cases t <;> cases k <;> exact kit_ty (by decide +kernel)
/-- isinstance(x, T): the second argument is the class -/
def rIs (K : PySem.W.Frag) (t : Ty) : List V → Hp → VK → Prop := fun xs H Q => ∃ st sd G σ d x, xs = [x, .ty t.name] ∧ Rel K st sd G σ H ∧ Pk K st sd G H x d ∧ Q (.bl (isB t d)) H
theorem od_isi (t : Ty) : CallR X (.builtin "isinstance") (rIs X.K t) := by
  intro pins s σ0 H xs us Q I rx h
  obtain ⟨st, sd, G, σ, d, x, rfl, rel, p, q⟩ := h
  exact call_isi pins s σ0 H _ us Q I rx ⟨x, _, _, _, isB t d, rfl, .ty t.name, (p.en rel).tyX, kit_d t d, q⟩
end
end DE

set_option Elab.async false
set_option linter.all false
set_option maxRecDepth 100000
set_option maxHeartbeats 2000000
set_option autoImplicit false
/-! Rules that the layer lacks: a tuple turned about, a tuple taken so often, enumerate of a tuple. -/
namespace DE
open PySem PySem.Spec PyProof.Rows L2

section
variable {prog : Program} {w : World} {A : Around} {E : Value → Shared → Prop} {s : Shared}
/-- the places of [::-1] -/
theorem turned_pick (xs : Array Value) : ((List.range xs.size).filterMap fun (m : Nat) => xs[(((xs.size : Int) - 1) + (m : Int) * (-1)).toNat]?).toArray = xs.toList.reverse.toArray := by
  apply congrArg
  apply List.ext_getElem?
  intro i
  have key : ∀ (n : Nat), n ≤ xs.size → (List.range n).filterMap (fun (m : Nat) => xs[(((xs.size : Int) - 1) + (m : Int) * (-1)).toNat]?) = (xs.toList.reverse).take n := by
    intro n
    induction n with
    | zero => intro _; rfl
    | succ k ih =>
      intro hk
      rw [List.range_succ, List.filterMap_append, ih (by omega)]
      have e1 : (((xs.size : Int) - 1) + (k : Int) * (-1)).toNat = xs.size - 1 - k := by omega
      have hlt : xs.size - 1 - k < xs.size := by omega
      have e2 : xs[xs.size - 1 - k]? = some xs[xs.size - 1 - k] := by simp [hlt]
      have e3 : List.filterMap (fun (m : Nat) => xs[(((xs.size : Int) - 1) + (m : Int) * (-1)).toNat]?) [k] = [xs[xs.size - 1 - k]] := by
        simp only [List.filterMap_cons, List.filterMap_nil, e1, e2]
      rw [e3, List.take_succ_eq_append_getElem (by simp; omega)]
      congr 1
      simp [List.getElem_reverse]
  rw [key _ (Nat.le_refl _), List.take_of_length_le (by simp)]
theorem turned_applied {sl : Addr} {vs : Value} {n : Nat} {Q : Int × Int × Nat → Shared → Prop} (hs : s.heap.IsSliceOf sl .none .none vs) (pv : IsPart vs (some (-1)))
    (h : Q ((n : Int) - 1, -1, n) s) : wpAny (model prog w) A (Builtin.Slice.sliceApplied (.ref sl) (pure (n : Int))) Q E s := by
  obtain ⟨os, ho, hc, hd⟩ := id hs
  unfold Builtin.Slice.sliceApplied Builtin.Slice.sliceFields
  refine wpAny_bind (wpAny_bind (wpAny_field ho hd (x := .none) rfl (wpAny_bind (wpAny_field ho hd (x := .none) rfl (wpAny_bind (wpAny_field ho hd (x := vs) rfl (wpAny_pure ?_)))))))
  refine wpAny_bind (HT.slicePart_ pv ?_)
  show wpAny _ _ (if ((-1 : Int) == 0) = true then _ else _) _ _ s
  rw [if_neg (by decide)]
  refine wpAny_bind (HT.slicePart_ .none (wpAny_bind (HT.slicePart_ .none (wpAny_bind (wpAny_pure ?_)))))
  show wpAny _ _ (match Builtin.Slice.sliceAdjust none none (-1) (n : Int) with | (lo, hi) => pure (lo, (-1 : Int), Builtin.Slice.slicePlaces lo hi (-1))) _ _ s
  have e1 : Builtin.Slice.sliceAdjust none none (-1) (n : Int) = ((n : Int) - 1, -1) := by
    unfold Builtin.Slice.sliceAdjust
    simp only [show ((-1 : Int) < 0) from by decide, if_true]
  rw [e1]
  have e2 : Builtin.Slice.slicePlaces ((n : Int) - 1) (-1) (-1) = n := by
    unfold Builtin.Slice.slicePlaces
    simp only [show ¬ ((-1 : Int) > 0) from by decide, if_false]
    by_cases hn : n = 0
    · subst hn; decide
    · rw [if_pos (by omega)]
      have : -(-1 : Int) = 1 := by decide
      rw [this, Int.ediv_one]
      omega
  show wpAny _ _ (pure ((n : Int) - 1, (-1 : Int), Builtin.Slice.slicePlaces ((n : Int) - 1) (-1) (-1))) _ _ s
  rw [e2]
  exact wpAny_pure h
theorem item_tuple_turned {t sl : Addr} {items : Array Value} {vs : Value} {Q : Value → Shared → Prop} (ht : IsTup s.heap t items) (hs : s.heap.IsSliceOf sl .none .none vs) (pv : IsPart vs (some (-1)))
    (h : Q (.ref s.heap.objs.size) { s with heap := s.heap.push { cls := .type "tuple", data := .seq items.toList.reverse.toArray } }) (hsz : items.size ≤ sizeLine) :
    wpAny (model prog w) A (getItem (.ref t) (.ref sl)) Q E s := by
  have hfit : sizeOk (.seq items.toList.reverse.toArray) := by
    show items.toList.reverse.toArray.size ≤ sizeLine
    simpa using hsz
  obtain ⟨os, ho, hc, hd⟩ := id hs
  have hT : s.TypeIs (.ref sl) "slice" := ⟨os, ho, hc⟩
  unfold getItem
  try with_reducible refine wpAny_holding ?_
  first | refine wpAny_bind (wpAny_pure ?_) | skip
  refine wpAny_bind (wpAny_sequenceKey ht.typeIs (by decide) ?_)
  refine wpAny_bind (wpAny_callSpecial?_slot (name := Str.ofString "__getitem__") ht.typeIs PyProof.Rows.slot_tuple_getitem
    (wpAny_call_entry PyProof.Rows.slot_tuple_getitem ht.typeIs entry_tuple_getitem ?_
      (args_tuple_getitem _ _)))
  show wpAny _ _ (Builtin.Tuple.tupleItemsOf (.ref t) >>= _) _ _ s
  refine wpAny_bind (tupleItemsOf_ ht ?_)
  refine wpAny_bind (wpAny_typeOf hT ?_)
  rw [if_pos (by decide)]
  refine wpAny_bind (turned_applied hs pv ?_)
  have hno : ¬ ((((items.size : Int) - 1) == 0 && (-1 : Int) == 1 && items.size == items.size) = true) := by
    intro q
    rw [Bool.and_eq_true, Bool.and_eq_true] at q
    exact absurd q.1.2 (by decide)
  show wpAny _ _ (if (((items.size : Int) - 1) == 0 && (-1 : Int) == 1 && items.size == items.size) = true then _ else _) _ _ s
  rw [if_neg hno, turned_pick]
  first
    | exact wpAny_bind (m := Builtin.Tuple.tupleExact _) (wpAny_newObj_type (wpAny_pure ⟨_, rfl, wpAny_pure h⟩) hfit)
    | exact wpAny_bind (m := Builtin.Tuple.tupleExact _) (wpAny_newObj_type (wpAny_bind (wpAny_pure (wpAny_pure ⟨_, rfl, wpAny_pure h⟩))) hfit)
    | exact wpAny_bind (wpAny_bind (m := Builtin.Tuple.tupleExact _) (wpAny_newObj_type (wpAny_pure (wpAny_pure ⟨_, rfl, wpAny_pure h⟩)) hfit))
    | exact wpAny_bind (wpAny_bind (m := Builtin.Tuple.tupleExact _) (wpAny_newObj_type (wpAny_pure ⟨_, rfl, wpAny_pure h⟩) hfit))
end
section
variable {X : Cx}
/-- x[::-1] of a list, of a tuple -/
def tRevA (K : PySem.W.Frag) (te : TE) : TE := fun σ H Q => te σ H fun x H1 => ∃ a xs, x = .ref a ∧ ((SqL K H1 a xs ∧ ∀ p, H1 p = none → Q (.ref p) (upd H1 p (.lst xs.reverse))) ∨ (SqT K H1 a xs ∧ ∀ p, H1 p = none → Q (.ref p) (upd H1 p (.tup xs.reverse))))
theorem pe_revA {e : Expr} {te : TE} {k : Nat} {p1 p2 p3 pos : Pos} (he : PE X e te) : PE X (.Subscript e (.Slice none none (some (.UnaryOp .USub (.Constant (.int 1) k p1) p2)) p3) pos) (tRevA X.K te) := by
  refine ⟨fun pins s σ H Q I h => ?_⟩
  refine Subscript_ (thn (he.run pins s σ H _ I h) fun v s1 ⟨x, H1, I1, r1, q1⟩ => ?_)
  obtain ⟨a, xs, ex, q⟩ := q1
  subst ex
  cases r1
  have one : PO X (some (.UnaryOp .USub (.Constant (.int 1) k p1) p2)) (tPart (tUn (rU fun i => .int (-i)) (tC (.int 1)))) := po_some (pe_un un_neg pe_int)
  refine wpAny_Slice ?_
  rw [evalPart_none]
  refine wpAny_pure (wpAny_pure ?_)
  refine thn (one.run pins s1 σ H1 (fun o H4 => o = some (-1) ∧ H4 = H1) I1 ⟨1, rfl, -1, rfl, rfl, rfl⟩) fun vs s4 ⟨o, H4, I4, ps, eo, e4⟩ => ?_
  subst eo e4
  have I5 : Inv X pins σ H4 { s4 with heap := s4.heap.push { cls := .type "slice", data := .fields #[.none, .none, vs] } } := I4.kept (t' := s4.toks) fun b ob q => Heap.get?_push_of_some _ q
  show wpAny (model X.prog X.w) X.A (subscriptTail e (.Slice none none (some (.UnaryOp .USub (.Constant (.int 1) k p1) p2)) p3) (.ref a) (.ref s4.heap.objs.size)) (EP X pins σ Q) X.xe { s4 with heap := s4.heap.push { cls := .type "slice", data := .fields #[.none, .none, vs] } }
  rcases q with ⟨hx, q⟩ | ⟨hx, q⟩
  · obtain ⟨its, r, ht, hz⟩ := I5.list hx
    have hl := r.length
    refine tail_any (ops := [.ref a, .ref s4.heap.objs.size]) ht.isList.typeIs (PySem.slot_list_getitem.lookup) ?_ (by with_unfolding_all rfl)
    refine wpAny_getItem_list_slice ht.isList (Heap.IsSliceOf.new _ .none .none vs) .none .none ps (by decide) ?_ (by rw [List.size_toArray]; omega)
    rw [PySem.W.krv_pick]
    refine ⟨.ref _, _, I5.laid (t' := s4.toks) (o := .lst xs.reverse) (fun b ob q => Heap.get?_push_of_some _ q) (Nat.le_refl _) ?_, rfl, q _ (I5.hok.fresh (Nat.le_refl _))⟩
    exact ⟨by simpa using hz, _, 0, r.reverse, Heap.get?_push_size _ rfl⟩
  · obtain ⟨its, r, ht, hz⟩ := I5.tuple hx
    have hl := r.length
    refine tail_any (ops := [.ref a, .ref s4.heap.objs.size]) ht.typeIs (PyProof.Rows.slot_tuple_getitem.lookup) ?_ (by with_unfolding_all rfl)
    refine item_tuple_turned ht (Heap.IsSliceOf.new _ .none .none vs) ps ?_ (by rw [List.size_toArray]; omega)
    refine ⟨.ref _, _, I5.laid (t' := s4.toks) (o := .tup xs.reverse) (fun b ob q => Heap.get?_push_of_some _ q) (Nat.le_refl _) ?_, rfl, q _ (I5.hok.fresh (Nat.le_refl _))⟩
    exact ⟨by simpa using hz, its.reverse, r.reverse, ⟨_, Heap.get?_push_size _ rfl, rfl, 0, by simp⟩⟩
end

/-! ### enumerate(tuple) -/
set_option maxHeartbeats 4000000 in
theorem enum_newT (l : Addr) (items : Array Value) :
    Meets (Builtin.«enumerate.__new__» ⟨[.type "enumerate", .ref l], []⟩) (fun _ R s => s.heap.IsTuple l items ∧
      R (.ok (.ret (.ref (s.heap.push { cls := .type "tuple_iterator", data := .fields #[.ref l, .int 0 0] }).objs.size)))
        { s with heap := (s.heap.push { cls := .type "tuple_iterator", data := .fields #[.ref l, .int 0 0] }).push { cls := .type "enumerate", data := .fields #[.none, .bool false, .ref s.heap.objs.size, rawInt 0, .none, .none] } }) :=
  .of_wp fun prog w A R s h => by
    obtain ⟨hp, g, d, tk, os⟩ := s
    obtain ⟨h1, h⟩ := h
    have hsub := sub_enumerate
    have q1 : ∀ {A' : Around} {E' : Value → Shared → Prop} {Q' : Value → Shared → Prop}, Q' (.ref hp.objs.size) ⟨hp.push { cls := .type "tuple_iterator", data := .fields #[.ref l, .int 0 0] }, g, d, tk, os⟩ →
        wpAny (model prog w) A' (pyIter (.ref l)) Q' E' ⟨hp, g, d, tk, os⟩ := fun q => (begins_tuple l items).iter prog w _ _ ⟨hp, g, d, tk, os⟩ _ h1 q
    wp_walk using q1
    refine wpAny_stack_any fun st => wpAny_pure ?_
    split
    · rename_i c _ _ _ _ _
      cases (c == Value.type "enumerate") <;> (wp_walk using q1; exact ⟨_, rfl, h⟩)
    · wp_walk using q1
      exact ⟨_, rfl, h⟩
theorem call_enumT {prog : Program} {w : World} {A : Around} {E : Value → Shared → Prop} {s : Shared} {l : Addr} {items : Array Value} {Q : Value → Shared → Prop} (hL : s.heap.IsTuple l items)
    (h : ∀ h', IsEnum h' (s.heap.objs.size + 1) s.heap.objs.size 0 .none → h'.IsTupleIter s.heap.objs.size l 0 → h'.IsTuple l items →
      (∀ b o, s.heap.get? b = some o → h'.get? b = some o) → Q (.ref (s.heap.objs.size + 1)) { s with heap := h' }) :
    wpAny (model prog w) A (call (.type "enumerate") [.ref l]) Q E s := by
  refine callType_new F.called_enumerate (by decide) (F.typeCall_enumerate_1 _) (F.newCall_enumerate_1 _) (fun ob => F.args_object_init_2 ob _)
    F.entry_enumerate_new (enum_newT l items) ⟨hL, ?_⟩
  generalize ho : ({ cls := .type "tuple_iterator", data := .fields #[.ref l, .int 0 0] } : Obj) = o
  have hf : o.isFreed = false := by subst ho; rfl
  have hz : (s.heap.push o).objs.size = s.heap.objs.size + 1 := Heap.size_push ..
  show _ ∧ _
  rw [hz]
  generalize hp : (s.heap.push o).push { cls := .type "enumerate", data := .fields #[.none, .bool false, .ref s.heap.objs.size, rawInt 0, .none, .none] } = h'
  have kp : ∀ b u, s.heap.get? b = some u → h'.get? b = some u := fun b u x => by
    rw [← hp]; exact Heap.get?_push_of_some _ (Heap.get?_push_of_some _ x)
  have he : IsEnum h' (s.heap.objs.size + 1) s.heap.objs.size 0 .none := by
    have q := Heap.get?_push_size (s.heap.push o) (o := { cls := .type "enumerate", data := .fields #[.none, .bool false, .ref s.heap.objs.size, rawInt 0, .none, .none] }) rfl
    rw [hz, hp] at q
    exact q
  have hi : h'.get? s.heap.objs.size = some o := by
    rw [← hp]; exact Heap.get?_push_of_some _ (Heap.get?_push_size _ hf)
  exact ⟨⟨_, he, rfl⟩, h h' he ⟨o, hi, by rw [← ho], by rw [← ho] <;> rfl⟩ (hL.at fun u e => kp _ u e) kp⟩
/-- a tuple's iterator at its end -/
theorem drawsEnd {prog : Program} {w : World} {A : Around} (hh : A.handled = none) (it t : Addr) (hne : t ≠ it) (items : Array Value) (n : Nat) (hn : items.size ≤ n) :
    Draws prog w A it [it, t] n (fun _ _ => False) (fun i h => h.IsTupleIter it t i ∧ h.IsTuple t items ∧ n ≤ i) where
  live := fun _ _ st => let ⟨o, ho, _⟩ := st.1; ⟨o, ho⟩
  frame := fun _ _ _ st hk => ⟨st.1.at fun o e => hk it (by simp) o e, st.2.1.at fun o e => hk t (by simp) o e, st.2.2⟩
  item := fun i s Q E hi st _ => absurd hi (Nat.not_lt.mpr st.2.2)
  done := fun s Q E st hE => wpAny_nextOf_tuple_end hh st.1 st.2.1 (by simpa using hn) hE
/-- the tuple at a, each item in a new pair with its place -/
def IteT (K : PySem.W.Frag) (a : Addr) : It where
  go := fun i H => ∃ (xs : List V) (x : V), SqT K H a xs ∧ xs[i]? = some x
  yld := fun i H v H' => ∃ T x, v = .ref T ∧ H T = none ∧ H' = upd H T (.tup [.int (i : Nat), x]) ∧ ∀ xs, SqT K H a xs → xs[i]? = some x
  stop := fun i H => ∃ xs : List V, SqT K H a xs ∧ xs.length ≤ i
theorem turn_enumT {P : Program} {w : World} {K : PySem.W.Frag} {elts : List Expr} {kk : Nat} {tpos : Pos} (a e it : Addr) :
    Turn P w K (.Tuple elts kk tpos) (IteT K a) [e, it] e (fun i h => (∃ old, IsEnum h e it ((i : Nat) : Int) old) ∧ h.IsTupleIter it a i ∧ e ≠ it ∧ a ≠ it ∧ a ≠ e) where
  mem := by simp
  obj := fun i h st b hb => by
    obtain ⟨⟨old, he⟩, ⟨o, ho, hc, hd⟩, _⟩ := st
    rcases (show b = e ∨ b = it by simpa using hb) with rfl | rfl
    · exact ⟨_, he, fun v q => nomatch q⟩
    · exact ⟨o, ho, fun v q => by rw [hd] at q; cases q⟩
  keep := fun i h h' st k => by
    obtain ⟨⟨old, he⟩, hi, hne⟩ := st
    exact ⟨⟨old, k e (by simp) _ he⟩, hi.at fun o q => k it (by simp) o q, hne⟩
  item := by
    intro X hP hw hK hc i pins s σ H E I hf st hg
    subst hP hw hK
    obtain ⟨⟨old, he⟩, hit, hne, hai, hae⟩ := st
    obtain ⟨xs, x, hq, hx⟩ := hg
    obtain ⟨its, rv, p, hz⟩ := I.tuple hq
    obtain ⟨u, hu, ru⟩ := rv.get hx
    have hlt : i < its.toArray.size := by
      have := (List.getElem?_eq_some_iff.mp hu).1
      simpa using this
    have hel : e < s.heap.objs.size := Heap.lt_size he
    have hil : it < s.heap.objs.size := by obtain ⟨_, q, _⟩ := hit; exact Heap.lt_size q
    have Dr := Draws.tuple (prog := X.prog) (w := X.w) (A := X.A.in1) (I.ok.hd hc) it a hai its.toArray
    refine wpAny_pyNext_enum_itemD Dr he ⟨hit, p⟩ hlt hne (by simp [hne, Ne.symm hae]) fun y h' tk hy ho hs' hT hsz hk => ?_
    obtain rfl : y = u := by
      have e1 : its.toArray[i]? = some u := by simpa using hu
      rw [e1] at hy; exact (Option.some.inj hy).symm
    refine ⟨_, rfl, wpAny_letOwnedTupleGo_enum (s := { s with heap := h', toks := tk + 1 }) ho fun h2 he2 sb => ?_⟩
    have hT2 : h2.get? s.heap.objs.size = some { cls := .type "tuple", data := .seq #[.int i tk, y] } := (sb.2 _ (Nat.ne_of_gt hel)).trans hT
    have new : ObjOk X.prog X.w (upd H s.heap.objs.size (.tup [.int (i : Nat), x])) h2 s.heap.objs.size (.tup [.int (i : Nat), x]) :=
      ⟨by show 2 ≤ sizeLine; decide, [.int i tk, y], .cons ⟨_, rfl⟩ (.cons ru .nil), ⟨_, hT2, rfl, _, rfl⟩⟩
    have I1 : Inv X pins σ (upd H s.heap.objs.size (.tup [.int (i : Nat), x])) { s with heap := h2, toks := tk + 1 } := by
      refine I.turnedNew (ch := [e, it]) (fun b ob hb q => ?_) hf (Nat.le_refl _) new
      have n1 : b ≠ e := fun z => hb (by simp [z])
      have n2 : b ≠ it := fun z => hb (by simp [z])
      exact (sb.2 b n1).trans (hk b ob n1 n2 q)
    refine ⟨.ref s.heap.objs.size, _, I1, rfl, ⟨_, x, rfl, I.hok.fresh (Nat.le_refl _), rfl, fun ys hy => by rw [I.tuple_inj hy hq]; exact hx⟩,
      ⟨⟨y, ?_⟩, hs'.1.at fun o q => (sb.2 it (Ne.symm hne)).trans q, hne, hai, hae⟩, fun b hb => ?_⟩
    · have e1 : ((i + 1 : Nat) : Int) = (i : Int) + 1 := by omega
      rw [e1]; exact he2
    · have hb' : b < s.heap.objs.size := by
        rcases (show b = e ∨ b = it by simpa using hb) with rfl | rfl
        · exact hel
        · exact hil
      rw [upd_ne (Nat.ne_of_lt hb')]
      exact (hf b hb).1
  done := by
    intro X hP hw hK hc i pins s σ H E I hf st hg
    subst hP hw hK
    obtain ⟨⟨old, he⟩, hit, hne, hai, hae⟩ := st
    obtain ⟨xs, hq, hx⟩ := hg
    obtain ⟨its, rv, p, hz⟩ := I.tuple hq
    obtain ⟨f0, f1, f2, f3, f4, f5⟩ := hf it (by simp)
    have hl := rv.length
    have Dr := drawsEnd (prog := X.prog) (w := X.w) (A := X.A.in1) (I.ok.hd hc) it a hai its.toArray i (by simp; omega)
    exact wpAny_pyNext_enum_endD Dr he ⟨hit, p, Nat.le_refl _⟩ fun h' eb => ⟨rfl, I.turned (t' := s.toks) (fun b o hb q => eb b o hb q) f0 f1 f3 f4 f5⟩
  self := fun A i s Q E st h => by
    obtain ⟨⟨old, he⟩, _⟩ := st
    exact wpAny_pyIter_enum he h

def iEnumT (K : PySem.W.Frag) (ta : TA) : TI := fun σ H R => ta σ H fun vs H1 => ∃ a xs, vs = [.ref a] ∧ ((SqL K H1 a xs ∧ R (Ite K a) H1) ∨ (SqT K H1 a xs ∧ R (IteT K a) H1))
theorem pi_enumA {X : Cx} {e : Expr} {ta : TA} {p pos tpos : Pos} {elts : List Expr} {kk : Nat} (hg : Gl X "enumerate") (hm : X.mg "enumerate" = none) (ha : PA X [e] ta) (hs : starEach [e] X.env = [(false, eval e X.env)] := by rfl) :
    PI X (.Tuple elts kk tpos) (.Call (.Name "enumerate" p) [e] [] pos) (iEnumT X.K ta) := by
  refine ⟨fun pins s σ H R I h => ?_⟩
  refine Call_ (ld_blt I hg hm boot_enumerate (PyProof.Rows.callWith_type1 (thn (ha.run pos pins s σ H _ I h) fun us s1 ⟨vs, H1, I1, r1, q1⟩ => ?_) hs rfl))
  obtain ⟨a, xs, ex, q⟩ := q1
  subst ex
  obtain ⟨u, rfl, ru⟩ := vals1 r1
  cases ru
  have free : ∀ (b : Addr), s1.heap.objs.size ≤ b → FpOk X pins H1 b := fun b hb => I1.fpOk hb (I1.hok.fresh hb)
  have le2 : ∀ b ∈ [s1.heap.objs.size + 1, s1.heap.objs.size], s1.heap.objs.size ≤ b := fun b hb => by
    rcases (show b = s1.heap.objs.size + 1 ∨ b = s1.heap.objs.size by simpa using hb) with rfl | rfl
    · exact Nat.le_succ _
    · exact Nat.le_refl _
  rcases q with ⟨hq, q⟩ | ⟨hq, q⟩
  · obtain ⟨its, rv, p', hz⟩ := I1.list hq
    refine call_enumerate_list p'.isList fun h' he hit hsz hk => wpAny_pyIter_enum he ?_
    exact ⟨s1.heap.objs.size + 1, [s1.heap.objs.size + 1, s1.heap.objs.size], _, _, H1, rfl, I1.kept (t' := s1.toks) hk, turn_enum a _ _, ⟨⟨.none, he⟩, hit, Nat.succ_ne_self _⟩, fun b hb => free b (le2 b hb), q⟩
  · obtain ⟨its, rv, p', hz⟩ := I1.tuple hq
    have hal : a < s1.heap.objs.size := p'.lt
    refine call_enumT (show s1.heap.IsTuple a its.toArray from p') fun h' he hit htt hk => wpAny_pyIter_enum he ?_
    exact ⟨s1.heap.objs.size + 1, [s1.heap.objs.size + 1, s1.heap.objs.size], _, _, H1, rfl, I1.kept (t' := s1.toks) hk, turn_enumT a _ _,
      ⟨⟨.none, he⟩, hit, Nat.succ_ne_self _, Nat.ne_of_lt hal, Nat.ne_of_lt (Nat.lt_succ_of_lt hal)⟩, fun b hb => free b (le2 b hb), q⟩
theorem walk_enumT {K : PySem.W.Frag} {a : Addr} {xs : List V} : Walk (IteT K a) xs.length (fun H => SqT K H a xs) (YPair (fun i => some (.int (i : Nat))) (fun i => xs[i]?)) := by
  refine ⟨fun i _ hi q => ⟨xs, xs[i], q, by simp [hi]⟩, fun _ q => ⟨xs, q, Nat.le_refl _⟩, fun i H v H' _ q y => ?_⟩
  obtain ⟨T, x, h1, h2, h3, h4⟩ := y
  exact ⟨T, .int (i : Nat), x, h1, h2, h3, rfl, h4 xs q⟩
theorem walk_zipT {K : PySem.W.Frag} {a b : Addr} {xs ys : List V} {n : Nat} (hn : n = min xs.length ys.length) : Walk (RZ.ItzT K a b) n (fun H => SqT K H a xs ∧ SqT K H b ys) (YPair (fun i => xs[i]?) (fun i => ys[i]?)) := by
  subst hn
  refine ⟨fun i _ hi q => ?_, fun _ q => ⟨xs, ys, q.1, q.2, by omega⟩, fun i H v H' _ q y => ?_⟩
  · have h1 : i < xs.length := by omega
    have h2 : i < ys.length := by omega
    exact ⟨xs, ys, xs[i], ys[i], q.1, q.2, by simp [h1], by simp [h2]⟩
  · obtain ⟨T, x, z, h1, h2, h3, h4, h5⟩ := y
    exact ⟨T, x, z, h1, h2, h3, h4 xs q.1, h5 ys q.2⟩
end DE

set_option Elab.async false
set_option linter.all false
set_option maxRecDepth 100000
set_option maxHeartbeats 2000000
set_option autoImplicit false
/-! Promises of defs, where no text is being made (repr's guards are empty). -/
namespace DE
open PySem PySem.Spec PyProof.Rows L2

abbrev SpG := List V → Hp → VK → Prop
/-- a def at f keeps the promise sp -/
structure FnG (P : Program) (w : World) (K : PySem.W.Frag) (mg : Str → Option Value) (base : Heap) (k : Nat) (f : Addr) (fd : FuncData) (ps : List Str) (sp : SpG) : Prop where
  len : ∀ vs H Q, sp vs H Q → vs.length = ps.length
  run : ∀ (A : Around) (outer : List Env) (s : Shared) (H : Hp) (args : Args) (us : List Value) (vs : List V) (Q : VK), Room k A → A.guards = some [] → Env0 P w K mg base A outer s H →
    BindsTo s fd args (ps.zip us) → Vals vs us → sp vs H Q → codeAny (model P w) A (.call (.ref f) args) (CR L2.CX0 outer P w H s Q L2.E0) s
structure CalG (P : Program) (w : World) (K : PySem.W.Frag) (mg : Str → Option Value) (base : Heap) (k : Nat) (x : Str) (sp : SpG) : Prop where
  ex : ∃ (f : Addr) (fd : FuncData) (ps : List Str), FnG P w K mg base k f fd ps sp ∧ mg x = some (.ref f) ∧ PySem.W.keepIn K (.ref f) = true ∧ Binds K fd ps []
theorem FnG.mono {P : Program} {w : World} {K : PySem.W.Frag} {mg : Str → Option Value} {base : Heap} {j k : Nat} {f : Addr} {fd : FuncData} {ps : List Str} {sp : SpG} (F : FnG P w K mg base j f fd ps sp) (h : j ≤ k) : FnG P w K mg base k f fd ps sp :=
  ⟨F.len, fun A outer s H args us vs Q hr => F.run A outer s H args us vs Q (hr.mono h)⟩
theorem CalG.mono {P : Program} {w : World} {K : PySem.W.Frag} {mg : Str → Option Value} {base : Heap} {j k : Nat} {x : Str} {sp : SpG} (F : CalG P w K mg base j x sp) (h : j ≤ k) : CalG P w K mg base k x sp :=
  let ⟨f, fd, ps, F, r⟩ := F.ex; ⟨f, fd, ps, F.mono h, r⟩

section
variable {X : Cx} {k : Nat} {x : Str} {sp : SpG}
theorem run_g {f : Addr} {fd : FuncData} {ps : List Str} {pins : List (Addr × Obj)} {σ : List (Option V)} {H : Hp} {s : Shared} {Q : VK} {us : List Value} {vs : List V}
    (F : FnG X.prog X.w X.K X.mg X.base k f fd ps sp) (hr : Room k X.A) (hg : X.A.guards = some []) (hb : Binds X.K fd ps []) (I : Inv X pins σ H s) (r : Vals vs us) (h : sp vs H Q) :
    wpAny (model X.prog X.w) X.A (call (.ref f) us) (EP X pins σ Q) X.xe s := by
  have hl : (us ++ []).length = ps.length := by
    rw [List.append_nil, ← r.length]
    exact F.len _ _ _ h
  have b := hb s us I.kIn hl
  rw [List.append_nil] at b
  refine wpAny_call (codeAny_mono (F.run X.A X.stack s H ⟨us, []⟩ us vs Q hr hg I.env0 b r h) fun r' s' hq => ?_)
  cases r' with
  | error e => exact hq.elim
  | ok fl =>
    cases fl with
    | ret u => exact I.after hq
    | next => exact hq.elim
    | brk => exact hq.elim
    | cont => exact hq.elim
def tCallG (sp : SpG) (t : TA) : TE := fun σ H Q => t σ H fun vs H1 => sp vs H1 Q
theorem pe_callG {p pos : Pos} {e : Expr} {es : List Expr} {t : TA} (c : CalG X.prog X.w X.K X.mg X.base k x sp) (hr : Room k X.A) (hgd : X.A.guards = some []) (hg : Gl X x) (hdb : (x == ("__debug__" : Str)) = false) (ha : PA X (e :: es) t)
    (h1 : starEach (e :: es) X.env = (false, eval e X.env) :: starEach es X.env) (h2 : (backTo pos (starEach es X.env)).any (·.1) = false) : PE X (.Call (.Name x p) (e :: es) [] pos) (tCallG sp t) := by
  obtain ⟨f, fd, ps, F, hm, kp, b⟩ := c.ex
  refine ⟨fun pins s σ H Q I h => ?_⟩
  refine wpAny_Call_Name_kw (ld_glob I hg hm ?_ hdb)
  refine PySem.W.callWith_K (h₀ := X.base) I.ok.mod.kin kp (thn (ha.run pos pins s σ H _ I h) ?_) h1 h2
  rintro us s1 ⟨vs, H1, I1, rv, q⟩
  exact ⟨I1.kIn, run_g F hr hgd b I1 rv q⟩
theorem pe_callG0 {p pos : Pos} (c : CalG X.prog X.w X.K X.mg X.base k x sp) (hr : Room k X.A) (hgd : X.A.guards = some []) (hg : Gl X x) (hdb : (x == ("__debug__" : Str)) = false) : PE X (.Call (.Name x p) [] [] pos) (fun _ H Q => sp [] H Q) := by
  obtain ⟨f, fd, ps, F, hm, kp, b⟩ := c.ex
  refine ⟨fun pins s σ H Q I h => ?_⟩
  refine wpAny_Call_Name_kw (ld_glob I hg hm ?_ hdb)
  exact PySem.W.callWith_K0 I.kIn kp (run_g F hr hgd b I .nil h)
end

/-- a def, by its body's reading -/
theorem fn_g {P : Program} {w : World} {K : PySem.W.Frag} {mg : Str → Option Value} {base : Heap} {k : Nat} {x qual : Str} {st : Stmt} {f : Addr} {fd : FuncData} {N ps : List Str} {sp : SpG}
    (F : L2.Fun K x qual st f fd) (S : FnScope N ps (defScope st)) (len : ∀ vs H Q, sp vs H Q → vs.length = ps.length)
    (body : ∀ (cdv : Value) (A : Around) (outer : List Env) (s : Shared) (H : Hp) (vs : List V) (Q : VK), Room k (A.deeper (envOfC qual (defScope st) s.heap.objs.size f cdv)) → A.guards = some [] → sp vs H Q →
      ∃ t, PSs (cxOf L2.CX0 P w K mg base N qual (defScope st) f cdv A outer s H L2.E0).nox (defBody st) t ∧
        t { nx := fun _ H' => Q .non H', rt := Q } (start N vs) H) : FnG P w K mg base (k + 1) f fd ps sp := by
  obtain ⟨oc, od, kV, doc, pm, an, cdv, ct, osl, rfl, lk, hcd⟩ := F.ex
  refine ⟨len, ?_⟩
  intro A outer s H args us vs Q hr hgd e0 hb r hsp
  have hl := len _ _ _ hsp
  have up : ∀ b o, base.get? b = some o → s.heap.get? b = some o := fun b o e => (e0.bs b o e).1
  have KX : K.In s.heap := e0.mod.kin.keeps up
  have lim : s.heap.NoLimit := e0.mod.nolimit.keeps up
  have kinds : ∀ y ∈ ps.zip us, (defScope st).names.lookup y.1 = some .local ∨
      ((defScope st).names.lookup y.1 = some .cell ∧ ((cellsFrom (s.heap.objs.size + 1) (defScope st).names []).lookup y.1).isSome = true) := by
    rintro ⟨n, v⟩ hy
    rcases S.par n (List.of_mem_zip hy).1 with q | q
    · exact .inl q
    · exact .inr ⟨q, PySem.W.cellsFrom_some _ _ _ (.inl q)⟩
  refine codeAny_call_function hr.depth (KX _ _ lk) rfl S.co S.gen rfl
    (PySem.W.codeRec_of KX hcd) (hb _ _ _ _ ?_)
  refine wpAny_newFunctionEnv_cells S.kind kinds fun env he s1 z => ?_
  subst he
  refine ⟨lim.keeps z.toInCall.keep, codeAny_func ?_⟩
  obtain ⟨t, ht, hq⟩ := body cdv A outer s H vs Q (hr.deeper _) hgd hsp
  have I := inv_start (CX := L2.CX0) (P := P) (w := w) (mg := mg) (base := base) (E := L2.E0) S hr.hd e0 hl r z
  refine wpAny_mono (ht.nox.run [] s1 (start N vs) H _ I hq) ?_ fun e s' hs => hs
  intro fl s' hs
  cases fl with
  | ret u =>
    obtain ⟨v, σ', H', J, rv, q⟩ := hs
    exact ⟨v, H', J.os, J.bare, J.base, J.hok, rv, q⟩
  | next =>
    obtain ⟨σ', H', J, q⟩ := hs
    exact ⟨V.non, H', J.os, J.bare, J.base, J.hok, rfl, q⟩
  | brk => obtain ⟨_, _, _, q⟩ := hs; exact q.elim
  | cont => obtain ⟨_, _, _, q⟩ := hs; exact q.elim
theorem cal_g {P : Program} {w : World} {K : PySem.W.Frag} {mg : Str → Option Value} {base : Heap} {k : Nat} {x : Str} {f : Addr} {fd : FuncData} {ps : List Str} {sp : SpG}
    (F : FnG P w K mg base k f fd ps sp) (hm : mg x = some (.ref f)) (kp : PySem.W.keepIn K (.ref f) = true) (b : Binds K fd ps []) : CalG P w K mg base k x sp := ⟨f, fd, ps, F, hm, kp, b⟩
end DE

set_option Elab.async false
set_option linter.all false
set_option maxRecDepth 100000
set_option maxHeartbeats 2000000
set_option autoImplicit false
/-! A small language: its meaning on data, and which Python text it stands for. -/
namespace DE
open PySem PySem.Spec PyProof.Rows L2

inductive Bop where
  | add | sub | mul | fdiv | mod | pow
inductive Cop where
  | eq | ne | lt | le | gt | ge | is | isn | mem | nmem
inductive Bl where
  | len | abs | int | max | min | list | tuple | all | any | sum | repr
inductive Tg where
  | name (i : Nat) | tup (ts : List Tg)
/-- the drawing source's plain fields -/
inductive SF where
  | left | mixed | turn
def SF.nm : SF → Str
  | .left => "left" | .mixed => "mixed" | .turn => "turn"
def SF.get : SF → Src → Int
  | .left, s => s.left | .mixed, s => s.mixed | .turn, s => s.turn
def SF.put : SF → Src → Int → Src
  | .left, s, i => { s with left := i } | .mixed, s, i => { s with mixed := i } | .turn, s, i => { s with turn := i }
mutual
inductive Ex where
  | var (i : Nat) | non | bl (b : Bool) | int (i : Int) | str (x : Str) | cst (k : Nat)
  | bin (op : Bop) (a b : Ex) | neg (a : Ex) | not (a : Ex) | and (a b : Ex) | or (a b : Ex) | ite (c a b : Ex)
  | cmp (op : Cop) (a b : Ex) | chain (op op' : Cop) (a b c : Ex)
  | tup (es : List Ex) | lst (es : List Ex) | dic0 | dsp (t : Bool) (ss : List Bool) (es : List Ex)
  | ix (a b : Ex) | slL (a lo : Ex) | slH (a hi : Ex) | sl (a lo hi : Ex) | rev (a : Ex)
  | call (f : Nat) (es : List Ex) | callK (f : Nat) (es : List Ex) | blt (f : Bl) (es : List Ex) | gcd (a b : Ex) | isi (a : Ex) (t : Ty)
  | lc (own : List Nat) (tg : Tg) (it : EI) (cond elt : Ex) | yes
  | sfld (i : Nat) (f : SF) | slen (i : Nat) | clen (i : Nat)
inductive EI where
  | seq (a : Ex) | rng (es : List Ex) | enum (a : Ex) | zip (a b : Ex) | scr (i : Nat)
end

/-! ### meaning -/
def bopD : Bop → D → D → Option R
  | .add => addD | .sub => subD | .mul => mulD | .fdiv => fdivD | .mod => modD | .pow => powD
def copD : Cop → D → D → Option R
  | .eq => eqD | .ne => neD | .lt => ltD | .le => leD | .gt => gtD | .ge => geD | .is => isD | .isn => isnD | .mem => memD | .nmem => nmemD
def blD : Bl → List D → Option R
  | .len => lenD | .abs => absD | .int => int1D | .max => max2D | .min => min2D | .list => listD | .tuple => tupleD | .all => allD | .any => anyD | .sum => sumD | .repr => reprD

abbrev Ph := Stt → Option (R × Stt)
/-- a value; a thing that is read; a truth value -/
def fV (φ : Ph) : Stt → Option (D × Stt) := fun st => (φ st).bind fun p => toV p.1 p.2
def fP (φ : Ph) : Stt → Option (D × Stt) := fun st => (φ st).bind fun p => (pk p.1 p.2).map fun d => (d, p.2)
def fT (φ : Ph) : Stt → Option (Bool × Stt) := fun st => (fP φ st).bind fun p => match p.1 with
  | .bool b => some (b, p.2)
  | _ => none
def fBin (bd : D → D → Option R) (φ ψ : Ph) : Ph := fun st => (fP φ st).bind fun p => (fP ψ p.2).bind fun q => (bd p.1 q.1).map fun r => (r, q.2)
def fUn (ud : D → Option R) (φ : Ph) : Ph := fun st => (fP φ st).bind fun p => (ud p.1).map fun r => (r, p.2)
def fAnd (φ ψ : Ph) : Ph := fun st => (fT φ st).bind fun p => if p.1 = true then ψ p.2 else some (.val (.bool false), p.2)
def fOr (φ ψ : Ph) : Ph := fun st => (fT φ st).bind fun p => if p.1 = true then some (.val (.bool true), p.2) else ψ p.2
def fNot (φ : Ph) : Ph := fun st => (fT φ st).map fun p => (.val (.bool (!p.1)), p.2)
def fIte (φ ψ χ : Ph) : Ph := fun st => (fT φ st).bind fun p => if p.1 = true then ψ p.2 else χ p.2
def fChain (bd bd' : D → D → Option R) (φ ψ χ : Ph) : Ph := fun st => (fP φ st).bind fun p => (fP ψ p.2).bind fun q => match bd p.1 q.1 with
  | some (.val (.bool true)) => (fP χ q.2).bind fun r => (bd' q.1 r.1).map fun x => (x, r.2)
  | some (.val (.bool false)) => some (.val (.bool false), q.2)
  | _ => none
abbrev PhL := Stt → Option (List D × Stt)
def fNil : PhL := fun st => some ([], st)
def fCons (φ : Stt → Option (D × Stt)) (ψ : PhL) : PhL := fun st => (φ st).bind fun p => (ψ p.2).map fun q => (p.1 :: q.1, q.2)
def fA (φ : Ph) : Stt → Option (A × Stt) := fun st => (φ st).bind fun p => match p.1 with
  | .src => some (.src, p.2)
  | .scr ns => some (.scr ns, p.2)
  | r => (toV r p.2).map fun q => (.val q.1, q.2)
def fConsA (φ : Stt → Option (A × Stt)) (ψ : Stt → Option (List A × Stt)) : Stt → Option (List A × Stt) := fun st => (φ st).bind fun p => (ψ p.2).map fun q => (p.1 :: q.1, q.2)
def fStar (φ ψ : PhL) : PhL := fun st => (φ st).bind fun p => (ψ p.2).map fun q => (p.1 ++ q.1, q.2)
def fTup (φ : PhL) : Ph := fun st => (φ st).bind fun p => if p.1.length ≤ most then some (.val (.tuple p.1), p.2) else none
def fLst (φ : PhL) : Ph := fun st => (φ st).bind fun p => if p.1.length ≤ most then some (.new p.1, p.2) else none
def intOf : D → Option Int
  | .int i => some i
  | _ => none
def fInt (φ : Ph) : Stt → Option (Int × Stt) := fun st => (fP φ st).bind fun p => (intOf p.1).map fun i => (i, p.2)
def fSl (φ : Ph) (lo hi : Stt → Option (Option Int × Stt)) : Ph := fun st => (fP φ st).bind fun p => (lo p.2).bind fun a => (hi a.2).bind fun b => (slD p.1 a.1 b.1).map fun r => (r, b.2)
def fNoI : Stt → Option (Option Int × Stt) := fun st => some (none, st)
def fSoI (φ : Ph) : Stt → Option (Option Int × Stt) := fun st => (fInt φ st).map fun p => (some p.1, p.2)
def revD : D → Option R
  | .list xs => some (.new xs.reverse)
  | .tuple xs => some (.val (.tuple xs.reverse))
  | _ => none
def fCall (F : Fn) (φ : Stt → Option (List A × Stt)) : Ph := fun st => (φ st).bind fun p => (F p.1 p.2.S).map fun q => ((match q.1 with | .val d => .val d | .src => .src | .scr ns => .scr ns), { p.2 with S := q.2 })
mutual
/-- no list of so many within -/
def noL (n : Nat) : D → Bool
  | .list ds => decide (ds.length ≠ n) && noLs n ds
  | .tuple ds => noLs n ds
  | _ => true
def noLs (n : Nat) : List D → Bool
  | [] => true
  | d :: ds => noL n d && noLs n ds
end
def keepOk : List SV → List SV → D → Bool
  | .own ds :: g, x :: g', d => (match x with | .own _ => true | _ => noL ds.length d) && keepOk g g' d
  | _ :: g, _ :: g', d => keepOk g g' d
  | _, _, _ => true
/-- an own list that a call reads stays its own -/
def fKeep (φ : Ph) : Ph := fun st => (φ st).bind fun p => match p.1 with
  | .val d => if keepOk st.γ p.2.γ d = true then some (.val d, ⟨st.γ, p.2.S⟩) else none
  | _ => none
def fBl (cd : List D → Option R) (φ : PhL) : Ph := fun st => (φ st).bind fun p => (cd p.1).map fun r => (r, p.2)
/-- what is walked -/
def seqItems : D → Option (List D)
  | .list xs => some xs
  | .tuple xs => some xs
  | _ => none
def fSeq (φ : Ph) : PhL := fun st => (fV φ st).bind fun p => (seqItems p.1).map fun xs => (xs, p.2)
def fEnum (φ : Ph) : PhL := fun st => (fV φ st).bind fun p => (seqItems p.1).map fun xs => ((List.range xs.length).zipWith (fun i x => .tuple [.int (i : Nat), x]) xs, p.2)
def fZip (φ ψ : Ph) : PhL := fun st => (fV φ st).bind fun p => (fV ψ p.2).bind fun q => match p.1, q.1 with
  | .list xs, .list ys => some (List.zipWith (fun a b => .tuple [a, b]) xs ys, q.2)
  | .tuple xs, .tuple ys => some (List.zipWith (fun a b => .tuple [a, b]) xs ys, q.2)
  | _, _ => none
def rngD : List D → Option (List D)
  | [.int n] => if -(2 ^ 62) ≤ n ∧ n ≤ most then some ((List.range n.toNat).map fun i => .int (i : Nat)) else none
  | [.int a, .int b] => if -(2 ^ 62) ≤ a ∧ a < 2 ^ 62 ∧ -(2 ^ 62) ≤ b ∧ b < 2 ^ 62 ∧ b - a ≤ most then some ((List.range (b - a).toNat).map fun i => .int (a + (i : Nat))) else none
  | [.int a, .int b, .int c] => if c = -1 ∧ -(2 ^ 61) ≤ a ∧ a < 2 ^ 61 ∧ -(2 ^ 61) ≤ b ∧ b < 2 ^ 61 ∧ a - b ≤ most then some ((List.range (a - b).toNat).map fun i => .int (a + (i : Nat) * (-1))) else none
  | _ => none
def fRng (φ : PhL) : PhL := fun st => (φ st).bind fun p => (rngD p.1).map fun xs => (xs, p.2)

mutual
def bindT : Tg → D → List SV → Option (List SV)
  | .name i, d, γ => some (γ.set i (.val d))
  | .tup ts, .tuple ds, γ => bindTs ts ds γ
  | .tup ts, .list ds, γ => bindTs ts ds γ
  | .tup _, _, _ => none
def bindTs : List Tg → List D → List SV → Option (List SV)
  | [], [], γ => some γ
  | t :: ts, d :: ds, γ => (bindT t d γ).bind (bindTs ts ds)
  | _, _, _ => none
end
mutual
def Tg.slots : Tg → List Nat
  | .name i => [i]
  | .tup ts => slotsL ts
def slotsL : List Tg → List Nat
  | [] => []
  | t :: ts => t.slots ++ slotsL ts
end
def wipeG (γ : List SV) : List Nat → List SV
  | [] => γ
  | i :: r => (wipeG γ r).set i .un
/-- the slots of own as they were -/
def restG (γ γ' : List SV) (own : List Nat) : List SV := (List.range γ'.length).zipWith (fun i x => if i ∈ own then γ.getD i .un else x) γ'
def lcLoop (own : List Nat) (tg : Tg) (φc : Stt → Option (Bool × Stt)) (φe : Stt → Option (D × Stt)) : List D → List D → Stt → Option (List D × Stt)
  | [], acc, st => some (acc, st)
  | d :: ds, acc, st => (bindT tg d (wipeG st.γ own)).bind fun γ1 => (φc ⟨γ1, st.S⟩).bind fun p =>
    if p.1 = true then (φe p.2).bind fun q => if acc.length < most then lcLoop own tg φc φe ds (acc ++ [q.1]) ⟨restG st.γ q.2.γ own, q.2.S⟩ else none
    else lcLoop own tg φc φe ds acc ⟨restG st.γ p.2.γ own, p.2.S⟩
def fLc (own : List Nat) (tg : Tg) (φi : PhL) (φc : Stt → Option (Bool × Stt)) (φe : Stt → Option (D × Stt)) : Ph := fun st => (φi st).bind fun p => (lcLoop own tg φc φe p.1 [] p.2).map fun q => (.new q.1, q.2)

def srcAt (st : Stt) (i : Nat) : Option Src := match st.γ[i]? with
  | some .src => st.S
  | _ => none
def celAt (st : Stt) (i : Nat) : Option Src := match st.γ[i]? with
  | some .cel => st.S
  | _ => none
def scrAt (st : Stt) (i : Nat) : Option (List Int) := match st.γ[i]? with
  | some (.scr ns) => some ns
  | _ => none
section
variable (Φ : Nat → Fn) (C : Nat → D)
mutual
def ev : Ex → Ph
  | .var i => fun st => match st.γ[i]? with
    | some (.val d) => some (.val d, st)
    | some (.own _) => some (.bor i, st)
    | some .src => some (.src, st)
    | some (.scr ns) => some (.scr ns, st)
    | _ => none
  | .non => fun st => some (.val .none, st)
  | .bl b => fun st => some (.val (.bool b), st)
  | .int i => fun st => some (.val (.int i), st)
  | .str x => fun st => some (.val (.str x), st)
  | .cst k => fun st => some (.val (C k), st)
  | .bin op a b => fBin (bopD op) (ev a) (ev b)
  | .neg a => fUn negD (ev a)
  | .not a => fNot (ev a)
  | .and a b => fAnd (ev a) (ev b)
  | .or a b => fOr (ev a) (ev b)
  | .ite c a b => fIte (ev c) (ev a) (ev b)
  | .cmp op a b => fBin (copD op) (ev a) (ev b)
  | .chain op op' a b c => fChain (copD op) (copD op') (ev a) (ev b) (ev c)
  | .tup es => fTup (evs es)
  | .lst es => fLst (evs es)
  | .dic0 => fun st => some (.val (.dict []), st)
  | .dsp t ss es => if t = true then fTup (evS ss es) else fLst (evS ss es)
  | .ix a b => fBin ixD (ev a) (ev b)
  | .slL a lo => fSl (ev a) (fSoI (ev lo)) fNoI
  | .slH a hi => fSl (ev a) fNoI (fSoI (ev hi))
  | .sl a lo hi => fSl (ev a) (fSoI (ev lo)) (fSoI (ev hi))
  | .rev a => fUn revD (ev a)
  | .call f es => fCall (Φ f) (eva es)
  | .callK f es => fKeep (fCall (Φ f) (eva es))
  | .blt f es => fBl (blD f) (evr es)
  | .gcd a b => fBl gcdD (fCons (fP (ev a)) (fCons (fP (ev b)) fNil))
  | .isi a t => fUn (fun d => some (.val (.bool (isB t d)))) (ev a)
  | .lc own tg it cond elt => fLc own tg (evi it) (fT (ev cond)) (fV (ev elt))
  | .yes => fun st => some (.val (.bool true), st)
  | .sfld i f => fun st => (srcAt st i).map fun s => (.val (.int (f.get s)), st)
  | .slen i => fun st => (srcAt st i).map fun s => (.val (.int (s.cells.length : Nat)), st)
  | .clen i => fun st => (celAt st i).map fun s => (.val (.int (s.cells.length : Nat)), st)
def evs : List Ex → PhL
  | [] => fNil
  | e :: es => fCons (fV (ev e)) (evs es)
def evS : List Bool → List Ex → PhL
  | _, [] => fNil
  | ss, e :: es => if ss.headD false = true then fStar (fSeq (ev e)) (evS ss.tail es) else fCons (fV (ev e)) (evS ss.tail es)
def evr : List Ex → PhL
  | [] => fNil
  | e :: es => fCons (fP (ev e)) (evr es)
def eva : List Ex → Stt → Option (List A × Stt)
  | [] => fun st => some ([], st)
  | e :: es => fConsA (fA (ev e)) (eva es)
def evi : EI → PhL
  | .seq a => fSeq (ev a)
  | .rng es => fRng (evr es)
  | .enum a => fEnum (ev a)
  | .zip a b => fZip (ev a) (ev b)
  | .scr i => fun st => (scrAt st i).map fun ns => (ns.map PyData.int, st)
end
end

/-! ### the text -/
structure Ctx where
  sc : Scope
  N : List Str
  fnr : Option Scope
  fns : List (Str × Nat)
  cs : List (Str × Nat)
  gcd : Bool
def Ctx.fnB (x : Ctx) (n : Str) : Bool := match x.fnr with
  | none => true
  | some r => r.names.lookup n == some .cell
def Ctx.blk (x : Ctx) (scope : Scope) : Ctx := { x with sc := relS scope x.sc, fnr := some scope }
def visC (sc : Scope) (n : Str) : Bool := match sc.names.lookup n with
  | some .local => true | some .cell => true | some .free => true | _ => false
def locC (sc : Scope) (n : Str) : Bool := match sc.names.lookup n with
  | some .local => true | some .cell => true | _ => false
def glC (sc : Scope) (n : Str) : Bool := match sc.names.lookup n with
  | some .globalImplicit => true | _ => false
def okN (n : Str) : Bool := !(n == ("__debug__" : Str)) && !(n == ("__classdict__" : Str))
def varC (x : Ctx) (i : Nat) (n : Str) : Bool := decide (x.N[i]? = some n) && visC x.sc n && okN n
def Bop.of : Bop → Operator
  | .add => .Add | .sub => .Sub | .mul => .Mult | .fdiv => .FloorDiv | .mod => .Mod | .pow => .Pow
def Cop.of : Cop → CmpOp
  | .eq => .Eq | .ne => .NotEq | .lt => .Lt | .le => .LtE | .gt => .Gt | .ge => .GtE | .is => .Is | .isn => .IsNot | .mem => .In | .nmem => .NotIn
/-- a set's display -/
def isSetE : Expr → Bool
  | .Set _ _ _ => true
  | _ => false
def Bl.nm : Bl → Str
  | .len => "len" | .abs => "abs" | .int => "int" | .max => "max" | .min => "min" | .list => "list" | .tuple => "tuple" | .all => "all" | .any => "any" | .sum => "sum" | .repr => "repr"
def bltNames : List Str := ["len", "abs", "int", "max", "min", "list", "tuple", "all", "any", "sum", "repr", "isinstance", "bool", "str", "dict", "range", "enumerate", "zip", "sorted"]
/-- a global name that is a built-in's -/
def bltC (x : Ctx) (want n : Str) : Bool := decide (n = want) && glC x.sc n
def isStar : Expr → Bool
  | .Starred .. => true
  | _ => false
mutual
def chkT (x : Ctx) : Tg → Expr → Bool
  | .name i, e => match e with
    | .Name n _ => decide (x.N[i]? = some n) && locC x.sc n && (x.fnB n || decide (x.sc.names.lookup n = some .local))
    | _ => false
  | .tup ts, e => match e with
    | .Tuple es _ _ => chkTs x ts es && !(es.any isStar)
    | _ => false
def chkTs (x : Ctx) : List Tg → List Expr → Bool
  | [], es => es.isEmpty
  | t :: ts, es => match es with
    | e :: r => chkT x t e && chkTs x ts r
    | [] => false
end
mutual
def chkE (x : Ctx) : Ex → Expr → Bool
  | .var i, e => match e with | .Name n _ => varC x i n | _ => false
  | .non, e => match e with | .Constant .none _ _ => true | _ => false
  | .bl b, e => match e with | .Constant (.bool c) _ _ => b == c | _ => false
  | .int i, e => match e with | .Constant (.int j) _ _ => decide (i = j) | _ => false
  | .str s, e => match e with | .Constant (.str t) _ _ => decide (s = t) | _ => false
  | .cst k, e => match e with | .Name n _ => glC x.sc n && decide (x.cs.lookup n = some k) && okN n | _ => false
  | .bin op a b, e => match e with | .BinOp a' op' b' _ => (op.of == op') && chkE x a a' && chkE x b b' | _ => false
  | .neg a, e => match e with | .UnaryOp .USub a' _ => chkE x a a' | _ => false
  | .not a, e => match e with | .UnaryOp .Not a' _ => chkE x a a' | _ => false
  | .and a b, e => match e with
    | .BoolOp .And (a' :: b' :: r) p => match r with
      | [] => chkE x a a' && chkE x b b'
      | _ :: _ => chkE x a a' && chkE x b (.BoolOp .And (b' :: r) p)
    | _ => false
  | .or a b, e => match e with
    | .BoolOp .Or (a' :: b' :: r) p => match r with
      | [] => chkE x a a' && chkE x b b'
      | _ :: _ => chkE x a a' && chkE x b (.BoolOp .Or (b' :: r) p)
    | _ => false
  | .ite c a b, e => match e with | .IfExp c' a' b' _ => chkE x c c' && chkE x a a' && chkE x b b' | _ => false
  | .cmp op a b, e => match e with | .Compare a' [op'] [b'] _ => (op.of == op') && chkE x a a' && chkE x b b' && !isSetE b' | _ => false
  | .chain op1 op2 a b c, e => match e with | .Compare a' [o1, o2] [b', c'] _ => (op1.of == o1) && (op2.of == o2) && chkE x a a' && chkE x b b' && chkE x c c' && !isSetE c' | _ => false
  | .tup es, e => match e with | .Tuple es' _ _ => chkEs x es es' | _ => false
  | .lst es, e => match e with | .List es' _ => chkEs x es es' | _ => false
  | .dic0, e => match e with | .Dict [] [] _ => true | _ => false
  | .dsp t ss es, e => match e with | .Tuple es' _ _ => t && chkES x ss es es' | .List es' _ => !t && chkES x ss es es' | _ => false
  | .ix a b, e => match e with | .Subscript a' b' _ => chkE x a a' && chkE x b b' | _ => false
  | .slL a lo, e => match e with | .Subscript a' (.Slice (some lo') none none _) _ => chkE x a a' && chkE x lo lo' | _ => false
  | .slH a hi, e => match e with | .Subscript a' (.Slice none (some hi') none _) _ => chkE x a a' && chkE x hi hi' | _ => false
  | .sl a lo hi, e => match e with | .Subscript a' (.Slice (some lo') (some hi') none _) _ => chkE x a a' && chkE x lo lo' && chkE x hi hi' | _ => false
  | .rev a, e => match e with | .Subscript a' (.Slice none none (some (.UnaryOp .USub (.Constant (.int j) _ _) _)) _) _ => decide (j = 1) && chkE x a a' | _ => false
  | .call f es, e => match e with | .Call (.Name n _) es' [] _ => glC x.sc n && decide (x.fns.lookup n = some f) && okN n && chkEs x es es' | _ => false
  | .callK f es, e => match e with | .Call (.Name n _) es' [] _ => glC x.sc n && decide (x.fns.lookup n = some f) && okN n && chkEs x es es' | _ => false
  | .blt f es, e => match e with | .Call (.Name n _) es' [] _ => bltC x f.nm n && !es'.isEmpty && chkEs x es es' | _ => false
  | .gcd a b, e => match e with | .Call (.Name n _) [a', b'] [] _ => x.gcd && bltC x "gcd" n && chkE x a a' && chkE x b b' | _ => false
  | .isi a t, e => match e with | .Call (.Name n _) [a', .Name m _] [] _ => bltC x "isinstance" n && bltC x (Str.ofString t.name) m && chkE x a a' | _ => false
  | .lc own tg it cond elt, e => match e with
    | .ListComp elt' [⟨tg', iter, ifs, 0⟩] scope _ => blkC x.N x.sc scope (own.map fun i => (x.N.getD i Str.empty, i)) && chkT (x.blk scope) tg tg' && (tg.slots.all fun i => own.contains i) && chkI x it tg' iter &&
      (match ifs with
        | [] => (match cond with | .yes => true | _ => false)
        | [c] => chkE (x.blk scope) cond c
        | _ => false) && chkE (x.blk scope) elt elt'
    | _ => false
  | .yes, _ => false
  | .sfld i f, e => match e with | .Subscript (.Name n _) (.Constant (.str t) _ _) _ => varC x i n && decide (t = f.nm) | _ => false
  | .slen i, e => match e with | .Call (.Name m _) [.Subscript (.Name n _) (.Constant (.str t) _ _) _] [] _ => bltC x "len" m && varC x i n && decide (t = "cells") | _ => false
  | .clen i, e => match e with | .Call (.Name m _) [.Name n _] [] _ => bltC x "len" m && varC x i n | _ => false
def chkEs (x : Ctx) : List Ex → List Expr → Bool
  | [], es => es.isEmpty
  | a :: r, es => match es with
    | e :: es' => chkE x a e && chkEs x r es'
    | [] => false
def chkES (x : Ctx) : List Bool → List Ex → List Expr → Bool
  | _, [], es => es.isEmpty
  | ss, a :: r, es => match es with
    | e :: es' => (if ss.headD false = true then (match e with | .Starred e' _ => chkE x a e' | _ => false) else chkE x a e) && chkES x ss.tail r es'
    | [] => false
def chkI (x : Ctx) : EI → Expr → Expr → Bool
  | .seq a, _, e => chkE x a e
  | .rng es, _, e => match e with | .Call (.Name n _) es' [] _ => bltC x "range" n && !es'.isEmpty && chkEs x es es' | _ => false
  | .enum a, t, e => match t, e with | .Tuple _ _ _, .Call (.Name n _) [a'] [] _ => bltC x "enumerate" n && chkE x a a' | _, _ => false
  | .zip a b, t, e => match t, e with | .Tuple _ _ _, .Call (.Name n _) [a', b'] [] _ => bltC x "zip" n && chkE x a a' && chkE x b b' | _, _ => false
  | .scr i, _, e => match e with | .Name n _ => varC x i n | _ => false
end
end DE

set_option Elab.async false
set_option linter.all false
set_option maxRecDepth 100000
set_option maxHeartbeats 2000000
set_option autoImplicit false
/-! The language's expressions mean what the text does. -/
namespace DE
open PySem PySem.Spec PyProof.Rows L2

def ARel (K : PySem.W.Frag) (S : Option Src) (sd : Addr × Addr) (G : Hp) : A → V → Prop
  | .val d, v => En K G v d
  | .src, v => v = .ref sd.1 ∧ S ≠ none
  | .scr ns, v => ∃ a, v = .ref a ∧ SqL K G a (ns.map V.int)
/-- the promise of a def whose meaning is φ, n arguments -/
def spF (K : PySem.W.Frag) (n : Nat) (φ : Fn) : SpG := fun vs H Q => ∃ G S sd args r S', Rel K ⟨[], S⟩ sd G [] H ∧ Paired (fun v a => ARel K S sd G a v) vs args ∧ args.length = n ∧ φ args S = some (r, S') ∧
  ∀ v sd' G' H', Post K ⟨[], S⟩ sd G [] H ⟨[], S'⟩ sd' G' H' → ARel K S' sd' G' r v → Q v H'

structure Cond (X : Cx) (k : Nat) (cx : Ctx) (Φ : Nat → Fn) (C : Nat → D) : Prop where
  calm : X.calm = true
  nd : X.N.Nodup
  room : Room k X.A
  gd : X.A.guards = some []
  blt : ∀ x ∈ bltNames, X.mg x = none
  fns : ∀ x i, cx.fns.lookup x = some i → ∃ n, (∀ args S r, Φ i args S = some r → args.length = n) ∧ CalG X.prog X.w X.K X.mg X.base k x (spF X.K n (Φ i))
  cst : ∀ x i, cx.cs.lookup x = some i → ∃ v u, X.mg x = some u ∧ RelV v u ∧ ∀ G, En X.K G v (C i)
  gcd : cx.gcd = true → X.mg "gcd" = some (.builtin "math.gcd")
structure Fits (X : Cx) (k : Nat) (cx : Ctx) (Φ : Nat → Fn) (C : Nat → D) : Prop where
  sc : X.env.scope = cx.sc
  N : X.N = cx.N
  fn : ∀ n, cx.fnB n = true → X.fn n = true
  cond : Cond X k cx Φ C

/-! ### readings -/
def rd (K : PySem.W.Frag) (φ : Ph) : TE := fun σ H Q => ∃ st sd G r st', Rel K st sd G σ H ∧ φ st = some (r, st') ∧
  ∀ v sd' G' H', Post K st sd G σ H st' sd' G' H' → RRel K H st' sd' G' σ H' r v → Q v H'
def rdV (K : PySem.W.Frag) (φ : Stt → Option (D × Stt)) : TE := fun σ H Q => ∃ st sd G d st', Rel K st sd G σ H ∧ φ st = some (d, st') ∧
  ∀ v sd' G' H', Post K st sd G σ H st' sd' G' H' → En K G' v d → Q v H'
def rdP (K : PySem.W.Frag) (φ : Stt → Option (D × Stt)) : TE := fun σ H Q => ∃ st sd G d st', Rel K st sd G σ H ∧ φ st = some (d, st') ∧
  ∀ v sd' G' H', Post K st sd G σ H st' sd' G' H' → Pk K st' sd' G' H' v d → Q v H'
def rdT (K : PySem.W.Frag) (φ : Stt → Option (Bool × Stt)) : TT := fun σ H Q => ∃ st sd G b st', Rel K st sd G σ H ∧ φ st = some (b, st') ∧
  ∀ sd' G' H', Post K st sd G σ H st' sd' G' H' → Q b H'
def rdL (K : PySem.W.Frag) (φ : PhL) : TA := fun σ H Q => ∃ st sd G ds st', Rel K st sd G σ H ∧ φ st = some (ds, st') ∧
  ∀ vs sd' G' H', Post K st sd G σ H st' sd' G' H' → EnL K G' vs ds → Q vs H'
def rdR (K : PySem.W.Frag) (φ : PhL) : TA := fun σ H Q => ∃ st sd G ds st', Rel K st sd G σ H ∧ φ st = some (ds, st') ∧
  ∀ vs sd' G' H', Post K st sd G σ H st' sd' G' H' → Paired (Pk K st' sd' G' H') vs ds → Q vs H'
def rdA (K : PySem.W.Frag) (φ : Stt → Option (List A × Stt)) : TA := fun σ H Q => ∃ st sd G ds st', Rel K st sd G σ H ∧ φ st = some (ds, st') ∧
  ∀ vs sd' G' H', Post K st sd G σ H st' sd' G' H' → Paired (fun v a => ARel K st'.S sd' G' a v) vs ds → Q vs H'
theorem PEimp {X : Cx} {e : Expr} {t t' : TE} (h : PE X e t) (i : ∀ σ H Q, t' σ H Q → t σ H Q) : PE X e t' := ⟨fun pins s σ H Q I q => h.run pins s σ H Q I (i _ _ _ q)⟩
theorem PTimp {X : Cx} {e : Expr} {t t' : TT} (h : PT X e t) (i : ∀ σ H Q, t' σ H Q → t σ H Q) : PT X e t' := ⟨fun pins s σ H Q I q => h.run pins s σ H Q I (i _ _ _ q)⟩
theorem PWimp {X : Cx} {e : Expr} {t t' : TT} (h : PW X e t) (i : ∀ σ H Q, t' σ H Q → t σ H Q) : PW X e t' := ⟨fun wh pins s σ H Q I q => h.run wh pins s σ H Q I (i _ _ _ q)⟩
theorem PAimp {X : Cx} {e : List Expr} {t t' : TA} (h : PA X e t) (i : ∀ σ H Q, t' σ H Q → t σ H Q) : PA X e t' := ⟨fun p pins s σ H Q I q => h.run p pins s σ H Q I (i _ _ _ q)⟩

theorem Post.noneB {K : PySem.W.Frag} {st st1 : Stt} {sd sd1 : Addr × Addr} {G G1 H H1 : Hp} {σ : List (Option V)} (p : Post K st sd G σ H st1 sd1 G1 H1) {a : Addr} (h : H1 a = none) : H a = none := by
  cases e : H a with
  | none => rfl
  | some o =>
    exfalso
    by_cases ha : Apart st.S sd a
    · rw [p.keep a o e ha] at h; cases h
    · have hs : st.S ≠ none := fun z => ha (fun n => absurd z n)
      obtain ⟨h1, rfl⟩ := p.sdk hs
      cases e3 : st1.S with
      | none => exact h1 e3
      | some s =>
        obtain ⟨⟨k1, k2⟩, _⟩ := p.rel.src s e3
        refine ha fun _ => ⟨fun z => ?_, fun z => ?_⟩
        · rw [z, k1] at h; cases h
        · rw [z, k2] at h; cases h
theorem RRel.early {K : PySem.W.Frag} {st st1 st2 : Stt} {sd sd1 sd2 : Addr × Addr} {G G1 G2 H H1 H2 : Hp} {σ : List (Option V)} {r : R} {v : V} (h : RRel K H1 st2 sd2 G2 σ H2 r v) (p : Post K st sd G σ H st1 sd1 G1 H1) : RRel K H st2 sd2 G2 σ H2 r v := by
  cases r with
  | new ds =>
    obtain ⟨a, vs, h1, h2, h3, h4, h5, h6⟩ := h
    exact ⟨a, vs, h1, h2, h3, h4, p.noneB h5, h6⟩
  | _ => exact h
/-- what holds of a result, held on -/
theorem RRel.later {K : PySem.W.Frag} {st st1 st2 : Stt} {sd sd1 sd2 : Addr × Addr} {G G1 G2 H H1 H2 : Hp} {σ : List (Option V)} {r : R} {v : V} (r0 : Rel K st sd G σ H) (p0 : Post K st sd G σ H st1 sd1 G1 H1)
    (h : RRel K H st1 sd1 G1 σ H1 r v) (p : Post K st1 sd1 G1 σ H1 st2 sd2 G2 H2) : RRel K H st2 sd2 G2 σ H2 r v := by
  cases r with
  | val d => exact En.mono p.ext h
  | new ds =>
    obtain ⟨a, vs, h1, h2, h3, h4, h5, h6⟩ := h
    refine ⟨a, vs, h1, p.keep _ _ h2 h6, h3.mono p.ext, ?_, h5, p.apart h2 h6⟩
    cases e : G2 a with
    | none => rfl
    | some o =>
      exfalso
      rcases p.dom a h4 (by rw [e]; simp) with z | ⟨i, es, z1, z2⟩
      · rw [h2] at z; cases z
      · obtain ⟨_, ws, z3⟩ := p0.owned r0 z1 z2
        rw [h5] at z3; cases z3
  | bor i =>
    obtain ⟨h1, h2⟩ := h
    refine ⟨h1, ?_⟩
    rcases p.shp i with z | ⟨ds, z1, z2⟩
    · rw [z]; exact h2
    · exact .inr ⟨_, z2⟩
  | src =>
    obtain ⟨h1, h2⟩ := h
    obtain ⟨k1, rfl⟩ := p.sdk h2
    exact ⟨h1, k1⟩
  | scr ns =>
    obtain ⟨a, h1, h2⟩ := h
    exact ⟨a, h1, p.ext.seq h2⟩

section
variable {X : Cx} {e a b c : Expr} {φ ψ χ : Ph} {pos : Pos}
theorem bind_some {α β : Type} {o : Option α} {f : α → Option β} {y : β} (h : o.bind f = some y) : ∃ x, o = some x ∧ f x = some y := Option.bind_eq_some_iff.mp h
theorem map_some {α β : Type} {o : Option α} {f : α → β} {y : β} (h : o.map f = some y) : ∃ x, o = some x ∧ f x = y := Option.map_eq_some_iff.mp h

theorem toVal (h : PE X e (rd X.K φ)) : PE X e (rdV X.K (fV φ)) := PEimp h fun σ H Q ⟨st, sd, G, d, st', rel, e, q⟩ => by
  obtain ⟨⟨r, st1⟩, e1, e2⟩ := bind_some e
  refine ⟨st, sd, G, r, st1, rel, e1, fun v sd' G' H' p rr => ?_⟩
  obtain ⟨G2, p2, en⟩ := p.toV rel rr e2
  exact q v sd' G2 H' p2 en
theorem toRead (h : PE X e (rd X.K φ)) : PE X e (rdP X.K (fP φ)) := PEimp h fun σ H Q ⟨st, sd, G, d, st', rel, e, q⟩ => by
  obtain ⟨⟨r, st1⟩, e1, e2⟩ := bind_some e
  obtain ⟨d', e3, e4⟩ := map_some e2
  cases e4
  exact ⟨st, sd, G, r, st1, rel, e1, fun v sd' G' H' p rr => q v sd' G' H' p (rr.pk p.rel e3)⟩
/-- a bool as a test -/
theorem rd_test : ∀ {σ : List (Option V)} {H : Hp} {Q : Bool → Hp → Prop}, rdT X.K (fT φ) σ H Q → rdP X.K (fP φ) σ H fun v H' => ∃ k, v = .bl k ∧ Q k H' := fun {σ H Q} ⟨st, sd, G, b, st', rel, e, q⟩ => by
  obtain ⟨⟨d, st1⟩, e1, e2⟩ := bind_some e
  cases d with
  | bool b' =>
    cases e2
    exact ⟨st, sd, G, _, _, rel, e1, fun v sd' G' H' p pk => ⟨b, pk.bool, q sd' G' H' p⟩⟩
  | _ => cases e2
theorem toTest (h : PE X e (rd X.K φ)) (he : ∀ whole, isTrue e X.env whole = (do let v ← whole; standAt e.pos; holding [v] (truthy v))) : PT X e (rdT X.K (fT φ)) :=
  PTimp (pt_val (toRead h) he) fun σ H Q q => rd_test q

/-! ### operators -/
theorem bin_read {bd : D → D → Option R} {σ : List (Option V)} {H : Hp} {Q : VK} (h : rd X.K (fBin bd φ ψ) σ H Q) : tOp (rBD X.K bd) (rdP X.K (fP φ)) (rdP X.K (fP ψ)) σ H Q := by
  obtain ⟨st, sd, G, r, st', rel, e, q⟩ := h
  obtain ⟨⟨d1, st1⟩, e1, e2⟩ := bind_some e
  obtain ⟨⟨d2, st2⟩, e3, e4⟩ := bind_some e2
  obtain ⟨r', e5, e6⟩ := map_some e4
  cases e6
  refine ⟨st, sd, G, d1, st1, rel, e1, fun v sd1 G1 H1 p1 k1 => ⟨st1, sd1, G1, d2, st2, p1.rel, e3, fun u sd2 G2 H2 p2 k2 => ?_⟩⟩
  refine ⟨st2, sd2, G2, σ, d1, d2, r, p2.rel, k1.post p2, k2, e5, fun w G3 H3 p3 rr => ?_⟩
  have p12 := p1.trans p2
  exact q w sd2 G3 H3 (p12.trans p3) (RRel.early rr p12)
theorem un_read {ud : D → Option R} {σ : List (Option V)} {H : Hp} {Q : VK} (h : rd X.K (fUn ud φ) σ H Q) : tUn (rUD X.K ud) (rdP X.K (fP φ)) σ H Q := by
  obtain ⟨st, sd, G, r, st', rel, e, q⟩ := h
  obtain ⟨⟨d1, st1⟩, e1, e2⟩ := bind_some e
  obtain ⟨r', e5, e6⟩ := map_some e2
  cases e6
  refine ⟨st, sd, G, d1, st1, rel, e1, fun v sd1 G1 H1 p1 k1 => ⟨st1, sd1, G1, σ, d1, r, p1.rel, k1, e5, fun w G3 H3 p3 rr => q w sd1 G3 H3 (p1.trans p3) (RRel.early rr p1)⟩⟩

/-! ### and, or, not, if, chains -/
theorem pe_fAnd {rest : List Expr} (ha : PE X a (rd X.K φ)) (hb : PE X (.BoolOp .And (b :: rest) pos) (rd X.K ψ)) : PE X (.BoolOp .And (a :: b :: rest) pos) (rd X.K (fAnd φ ψ)) := by
  refine PEimp (pe_and (toRead ha) hb) fun σ H Q ⟨st, sd, G, r, st', rel, e, q⟩ => ?_
  obtain ⟨⟨k, st1⟩, e1, e2⟩ := bind_some e
  obtain ⟨⟨d, st0⟩, e3, e4⟩ := bind_some e1
  cases d with
  | bool k' =>
    cases e4
    refine ⟨st, sd, G, _, _, rel, e3, fun v sd1 G1 H1 p1 k1 => ⟨k, k1.bool, ?_⟩⟩
    cases k with
    | true =>
      rw [if_pos rfl] at e2 ⊢
      exact ⟨_, sd1, G1, r, st', p1.rel, e2, fun w sd2 G2 H2 p2 rr => q w sd2 G2 H2 (p1.trans p2) (RRel.early rr p1)⟩
    | false =>
      rw [if_neg Bool.false_ne_true] at e2 ⊢
      cases e2
      exact q _ sd1 G1 H1 p1 (.bl false)
  | _ => cases e4
theorem pe_fOr {rest : List Expr} (ha : PE X a (rd X.K φ)) (hb : PE X (.BoolOp .Or (b :: rest) pos) (rd X.K ψ)) : PE X (.BoolOp .Or (a :: b :: rest) pos) (rd X.K (fOr φ ψ)) := by
  refine PEimp (pe_or (toRead ha) hb) fun σ H Q ⟨st, sd, G, r, st', rel, e, q⟩ => ?_
  obtain ⟨⟨k, st1⟩, e1, e2⟩ := bind_some e
  obtain ⟨⟨d, st0⟩, e3, e4⟩ := bind_some e1
  cases d with
  | bool k' =>
    cases e4
    refine ⟨st, sd, G, _, _, rel, e3, fun v sd1 G1 H1 p1 k1 => ⟨k, k1.bool, ?_⟩⟩
    cases k with
    | true =>
      rw [if_pos rfl] at e2 ⊢
      cases e2
      exact q _ sd1 G1 H1 p1 (.bl true)
    | false =>
      rw [if_neg Bool.false_ne_true] at e2 ⊢
      exact ⟨_, sd1, G1, r, st', p1.rel, e2, fun w sd2 G2 H2 p2 rr => q w sd2 G2 H2 (p1.trans p2) (RRel.early rr p1)⟩
  | _ => cases e4
/-- a truth value of something that first asks another -/
theorem fT_bind {ω : Stt → Option (Bool × Stt)} {f : Bool × Stt → Option (R × Stt)} {st : Stt} {b : Bool} {st' : Stt} (e : fT (fun st => (ω st).bind f) st = some (b, st')) : ∃ p, ω st = some p ∧ fT (fun _ => f p) st = some (b, st') := by
  unfold fT fP at e ⊢
  cases h : ω st with
  | none => simp [h] at e
  | some p => exact ⟨p, rfl, by simpa [h] using e⟩
theorem pw_fAnd {rest : List Expr} (ha : PT X a (rdT X.K (fT φ))) (hb : PW X (.BoolOp .And (b :: rest) pos) (rdT X.K (fT ψ))) : PW X (.BoolOp .And (a :: b :: rest) pos) (rdT X.K (fT (fAnd φ ψ))) := by
  refine PWimp (pw_and ha hb) fun σ H Q ⟨st, sd, G, k, st', rel, e, q⟩ => ?_
  obtain ⟨⟨k1, st1⟩, e1, e2⟩ := fT_bind e
  refine ⟨st, sd, G, k1, st1, rel, e1, fun sd1 G1 H1 p1 => ?_⟩
  cases k1 with
  | true =>
    rw [if_pos rfl]
    refine ⟨st1, sd1, G1, k, st', p1.rel, by simpa [fT, fP] using e2, fun sd2 G2 H2 p2 => q sd2 G2 H2 (p1.trans p2)⟩
  | false =>
    rw [if_neg Bool.false_ne_true]
    have e3 : false = k ∧ st1 = st' := by simpa [fT, fP, pk] using e2
    obtain ⟨rfl, rfl⟩ := e3
    exact q sd1 G1 H1 p1
theorem pw_fOr {rest : List Expr} (ha : PT X a (rdT X.K (fT φ))) (hb : PW X (.BoolOp .Or (b :: rest) pos) (rdT X.K (fT ψ))) : PW X (.BoolOp .Or (a :: b :: rest) pos) (rdT X.K (fT (fOr φ ψ))) := by
  refine PWimp (pw_or ha hb) fun σ H Q ⟨st, sd, G, k, st', rel, e, q⟩ => ?_
  obtain ⟨⟨k1, st1⟩, e1, e2⟩ := fT_bind e
  refine ⟨st, sd, G, k1, st1, rel, e1, fun sd1 G1 H1 p1 => ?_⟩
  cases k1 with
  | false =>
    rw [if_neg Bool.false_ne_true]
    refine ⟨st1, sd1, G1, k, st', p1.rel, by simpa [fT, fP] using e2, fun sd2 G2 H2 p2 => q sd2 G2 H2 (p1.trans p2)⟩
  | true =>
    rw [if_pos rfl]
    have e3 : true = k ∧ st1 = st' := by simpa [fT, fP, pk] using e2
    obtain ⟨rfl, rfl⟩ := e3
    exact q sd1 G1 H1 p1
theorem pe_fNot (ha : PE X a (rd X.K φ)) : PE X (.UnaryOp .Not a pos) (rd X.K (fNot φ)) := by
  refine PEimp (pe_not (toRead ha)) fun σ H Q ⟨st, sd, G, r, st', rel, e, q⟩ => ?_
  obtain ⟨⟨k, st1⟩, e1, e2⟩ := map_some e
  cases e2
  obtain ⟨⟨d, st0⟩, e3, e4⟩ := bind_some e1
  cases d with
  | bool k' =>
    cases e4
    exact ⟨st, sd, G, _, _, rel, e3, fun v sd1 G1 H1 p1 k1 => ⟨k, k1.bool, q _ sd1 G1 H1 p1 (.bl _)⟩⟩
  | _ => cases e4
theorem pt_fNot (ha : PT X a (rdT X.K (fT φ))) : PT X (.UnaryOp .Not a pos) (rdT X.K (fT (fNot φ))) := by
  refine PTimp (pt_not ha) fun σ H Q ⟨st, sd, G, k, st', rel, e, q⟩ => ?_
  obtain ⟨⟨d, st0⟩, e3, e4⟩ := bind_some e
  obtain ⟨⟨r, st1⟩, e5, e6⟩ := bind_some e3
  obtain ⟨⟨k1, st2⟩, e7, e8⟩ := map_some e5
  cases e8
  simp only [pk, Option.map_some, Option.some.injEq, Prod.mk.injEq] at e6
  obtain ⟨rfl, rfl⟩ := e6
  cases e4
  exact ⟨st, sd, G, k1, _, rel, e7, fun sd1 G1 H1 p1 => q sd1 G1 H1 p1⟩
theorem pe_fIte (hc : PT X c (rdT X.K (fT φ))) (ha : PE X a (rd X.K ψ)) (hb : PE X b (rd X.K χ)) : PE X (.IfExp c a b pos) (rd X.K (fIte φ ψ χ)) := by
  refine PEimp (pe_ifExp hc ha hb) fun σ H Q ⟨st, sd, G, r, st', rel, e, q⟩ => ?_
  obtain ⟨⟨k1, st1⟩, e1, e2⟩ := bind_some e
  refine ⟨st, sd, G, k1, st1, rel, e1, fun sd1 G1 H1 p1 => ?_⟩
  have fin : ∀ {ω : Ph}, ω st1 = some (r, st') → rd X.K ω σ H1 Q := fun e => ⟨st1, sd1, G1, r, st', p1.rel, e, fun w sd2 G2 H2 p2 rr => q w sd2 G2 H2 (p1.trans p2) (RRel.early rr p1)⟩
  cases k1 with
  | true => dsimp only; rw [if_pos rfl] at e2 ⊢; exact fin e2
  | false => dsimp only; rw [if_neg Bool.false_ne_true] at e2 ⊢; exact fin e2
theorem pt_ifE {tc ta tb : TT} (hc : PT X c tc) (ha : PT X a ta) (hb : PT X b tb) : PT X (.IfExp c a b pos) (fun σ H Q => tc σ H fun k H1 => if k = true then ta σ H1 Q else tb σ H1 Q) := by
  refine ⟨fun pins s σ H Q I h => isTrue_IfExp (thn (hc.run pins s σ H _ I h) fun k s1 ⟨H1, I1, q1⟩ => ?_)⟩
  cases k with
  | true => exact ha.run pins s1 σ H1 Q I1 q1
  | false => exact hb.run pins s1 σ H1 Q I1 q1
theorem pt_fIte (hc : PT X c (rdT X.K (fT φ))) (ha : PT X a (rdT X.K (fT ψ))) (hb : PT X b (rdT X.K (fT χ))) : PT X (.IfExp c a b pos) (rdT X.K (fT (fIte φ ψ χ))) := by
  refine PTimp (pt_ifE hc ha hb) fun σ H Q ⟨st, sd, G, k, st', rel, e, q⟩ => ?_
  obtain ⟨⟨k1, st1⟩, e1, e2⟩ := fT_bind e
  refine ⟨st, sd, G, k1, st1, rel, e1, fun sd1 G1 H1 p1 => ?_⟩
  cases k1 with
  | true =>
    rw [if_pos rfl]
    exact ⟨st1, sd1, G1, k, st', p1.rel, by simpa [fT, fP] using e2, fun sd2 G2 H2 p2 => q sd2 G2 H2 (p1.trans p2)⟩
  | false =>
    rw [if_neg Bool.false_ne_true]
    exact ⟨st1, sd1, G1, k, st', p1.rel, by simpa [fT, fP] using e2, fun sd2 G2 H2 p2 => q sd2 G2 H2 (p1.trans p2)⟩
/-- a op b op' c -/
theorem chain_read {bd bd' : D → D → Option R} {σ : List (Option V)} {H : Hp} {Q : VK} (h : rd X.K (fChain bd bd' φ ψ χ) σ H Q) :
    tChain (rBD X.K bd) (rBD X.K bd') (rdP X.K (fP φ)) (rdP X.K (fP ψ)) (rdP X.K (fP χ)) σ H Q := by
  obtain ⟨st, sd, G, r, st', rel, e, q⟩ := h
  obtain ⟨⟨d1, st1⟩, e1, e2⟩ := bind_some e
  obtain ⟨⟨d2, st2⟩, e3, e4⟩ := bind_some e2
  refine ⟨st, sd, G, d1, st1, rel, e1, fun v sd1 G1 H1 p1 k1 => ⟨st1, sd1, G1, d2, st2, p1.rel, e3, fun u sd2 G2 H2 p2 k2 => ?_⟩⟩
  have p12 := p1.trans p2
  dsimp only at e4
  split at e4
  · rename_i e5
    obtain ⟨⟨d3, st3⟩, e6, e7⟩ := bind_some e4
    obtain ⟨r', e8, e9⟩ := map_some e7
    cases e9
    refine ⟨st2, sd2, G2, σ, d1, d2, _, p2.rel, k1.post p2, k2, e5, fun w G3 H3 p3 rr => ⟨true, ?_, ?_⟩⟩
    · cases (rr : En X.K G3 w (.bool true)); rfl
    rw [if_pos rfl]
    refine ⟨_, sd2, G3, d3, st3, p3.rel, e6, fun z sd4 G4 H4 p4 k4 => ?_⟩
    have p34 := p12.trans (p3.trans p4)
    exact ⟨st3, sd4, G4, σ, d2, d3, r, p4.rel, (k2.post p3).post p4, k4, e8, fun w' G5 H5 p5 rr5 => q w' sd4 G5 H5 (p34.trans p5) (RRel.early rr5 p34)⟩
  · rename_i e5
    cases e4
    refine ⟨_, sd2, G2, σ, d1, d2, _, p2.rel, k1.post p2, k2, e5, fun w G3 H3 p3 rr => ⟨false, ?_, ?_⟩⟩
    · cases (rr : En X.K G3 w (.bool false)); rfl
    rw [if_neg Bool.false_ne_true]
    exact q _ sd2 G3 H3 (p12.trans p3) (.bl false)
  · cases e4

/-! ### lists of expressions -/
variable {es : List Expr}
theorem cons_val {ω : Stt → Option (D × Stt)} {ρ : PhL} {σ : List (Option V)} {H : Hp} {Q : List V → Hp → Prop} (h : rdL X.K (fCons ω ρ) σ H Q) : tCons (rdV X.K ω) (rdL X.K ρ) σ H Q := by
  obtain ⟨st, sd, G, ds, st', rel, e, q⟩ := h
  obtain ⟨⟨d1, st1⟩, e1, e2⟩ := bind_some e
  obtain ⟨⟨ds2, st2⟩, e3, e4⟩ := map_some e2
  cases e4
  exact ⟨st, sd, G, d1, st1, rel, e1, fun v sd1 G1 H1 p1 k1 => ⟨st1, sd1, G1, ds2, st2, p1.rel, e3, fun vs sd2 G2 H2 p2 k2 => q (v :: vs) sd2 G2 H2 (p1.trans p2) (.cons (k1.mono p2.ext) k2)⟩⟩
theorem cons_read {ω : Stt → Option (D × Stt)} {ρ : PhL} {σ : List (Option V)} {H : Hp} {Q : List V → Hp → Prop} (h : rdR X.K (fCons ω ρ) σ H Q) : tCons (rdP X.K ω) (rdR X.K ρ) σ H Q := by
  obtain ⟨st, sd, G, ds, st', rel, e, q⟩ := h
  obtain ⟨⟨d1, st1⟩, e1, e2⟩ := bind_some e
  obtain ⟨⟨ds2, st2⟩, e3, e4⟩ := map_some e2
  cases e4
  exact ⟨st, sd, G, d1, st1, rel, e1, fun v sd1 G1 H1 p1 k1 => ⟨st1, sd1, G1, ds2, st2, p1.rel, e3, fun vs sd2 G2 H2 p2 k2 => q (v :: vs) sd2 G2 H2 (p1.trans p2) (.cons (k1.post p2) k2)⟩⟩
def rdA1 (K : PySem.W.Frag) (φ : Stt → Option (A × Stt)) : TE := fun σ H Q => ∃ st sd G d st', Rel K st sd G σ H ∧ φ st = some (d, st') ∧
  ∀ v sd' G' H', Post K st sd G σ H st' sd' G' H' → ARel K st'.S sd' G' d v → Q v H'
theorem toArg (h : PE X e (rd X.K φ)) : PE X e (rdA1 X.K (fA φ)) := PEimp h fun σ H Q ⟨st, sd, G, d, st', rel, e, q⟩ => by
  obtain ⟨⟨r, st1⟩, e1, e2⟩ := bind_some e
  refine ⟨st, sd, G, r, st1, rel, e1, fun v sd' G' H' p rr => ?_⟩
  have val : ∀ {r : R}, RRel X.K H st1 sd' G' σ H' r v → ((toV r st1).map fun q => (A.val q.1, q.2)) = some (d, st') → Q v H' := fun {r} rr e2 => by
    obtain ⟨⟨d', st2⟩, e3, e4⟩ := map_some e2
    cases e4
    obtain ⟨G2, p2, en⟩ := p.toV rel rr e3
    exact q v sd' G2 H' p2 en
  cases r with
  | src =>
    cases e2
    exact q v sd' G' H' p rr
  | scr ns =>
    cases e2
    exact q v sd' G' H' p rr
  | val d' => exact val rr e2
  | new ds => exact val rr e2
  | bor i => exact val rr e2
theorem cons_arg {ω : Stt → Option (A × Stt)} {ρ : Stt → Option (List A × Stt)} {σ : List (Option V)} {H : Hp} {Q : List V → Hp → Prop} (h : rdA X.K (fConsA ω ρ) σ H Q) : tCons (rdA1 X.K ω) (rdA X.K ρ) σ H Q := by
  obtain ⟨st, sd, G, ds, st', rel, e, q⟩ := h
  obtain ⟨⟨d1, st1⟩, e1, e2⟩ := bind_some e
  obtain ⟨⟨ds2, st2⟩, e3, e4⟩ := map_some e2
  cases e4
  refine ⟨st, sd, G, d1, st1, rel, e1, fun v sd1 G1 H1 p1 k1 => ⟨st1, sd1, G1, ds2, st2, p1.rel, e3, fun vs sd2 G2 H2 p2 k2 => q (v :: vs) sd2 G2 H2 (p1.trans p2) (.cons ?_ k2)⟩⟩
  cases d1 with
  | val d => exact En.mono p2.ext k1
  | src =>
    obtain ⟨h1, h2⟩ := k1
    obtain ⟨h3, rfl⟩ := p2.sdk h2
    exact ⟨h1, h3⟩
  | scr ns =>
    obtain ⟨a, h1, h2⟩ := k1
    exact ⟨a, h1, p2.ext.seq h2⟩
theorem star_val {ω : Ph} {ρ : PhL} {σ : List (Option V)} {H : Hp} {Q : List V → Hp → Prop} (h : rdL X.K (fStar (fSeq ω) ρ) σ H Q) : StX.tStar X.K (rdV X.K (fV ω)) (rdL X.K ρ) σ H Q := by
  obtain ⟨st, sd, G, ds, st', rel, e, q⟩ := h
  obtain ⟨⟨d1, st1⟩, e1, e2⟩ := bind_some e
  obtain ⟨⟨ds2, st2⟩, e3, e4⟩ := map_some e2
  cases e4
  obtain ⟨⟨d, st3⟩, e5, e6⟩ := bind_some e1
  obtain ⟨xs, e7, e8⟩ := map_some e6
  cases e8
  refine ⟨st, sd, G, d, _, rel, e5, fun v sd1 G1 H1 p1 k1 => ?_⟩
  cases d with
  | list xs' =>
    cases e7
    cases k1 with
    | lst h1 h2 => exact ⟨_, _, rfl, .inr (SqL.of (p1.rel.sub _ _ h1)), _, sd1, G1, ds2, st2, p1.rel, e3, fun vs sd2 G2 H2 p2 k2 => q _ sd2 G2 H2 (p1.trans p2) ((h2.mono p2.ext).append k2)⟩
  | tuple xs' =>
    cases e7
    cases k1 with
    | tup h1 h2 => exact ⟨_, _, rfl, .inl (sqT_mono p1.rel.sub h1), _, sd1, G1, ds2, st2, p1.rel, e3, fun vs sd2 G2 H2 p2 k2 => q _ sd2 G2 H2 (p1.trans p2) ((h2.mono p2.ext).append k2)⟩
  | _ => cases e7
theorem nil_val : PA X [] (rdL X.K fNil) := PAimp pa_nil fun σ H Q ⟨st, sd, G, ds, st', rel, e, q⟩ => by
  cases e; exact q [] sd G H (.refl rel) .nil
theorem nil_read : PA X [] (rdR X.K fNil) := PAimp pa_nil fun σ H Q ⟨st, sd, G, ds, st', rel, e, q⟩ => by
  cases e; exact q [] sd G H (.refl rel) .nil
theorem nil_arg : PA X [] (rdA X.K fun st => some ([], st)) := PAimp pa_nil fun σ H Q ⟨st, sd, G, ds, st', rel, e, q⟩ => by
  cases e; exact q [] sd G H (.refl rel) .nil
theorem pe_fTup {ρ : PhL} {x1 : Nat} (h : PA X es (rdL X.K ρ)) : PE X (.Tuple es x1 pos) (rd X.K (fTup ρ)) := PEimp (pe_tup h) fun σ H Q ⟨st, sd, G, r, st', rel, e, q⟩ => by
  obtain ⟨⟨ds, st1⟩, e1, e2⟩ := bind_some e
  dsimp only at e2
  split at e2
  · rename_i hz
    cases e2
    refine ⟨st, sd, G, ds, st', rel, e1, fun vs sd1 G1 H1 p1 k1 => ⟨by rw [k1.length]; exact most_le hz, fun p hp => ?_⟩⟩
    exact q _ sd1 _ _ (p1.trans (p1.rel.postG hp)) (p1.rel.newT hp k1)
  · cases e2
theorem pe_fLst {ρ : PhL} (h : PA X es (rdL X.K ρ)) : PE X (.List es pos) (rd X.K (fLst ρ)) := PEimp (pe_lst h) fun σ H Q ⟨st, sd, G, r, st', rel, e, q⟩ => by
  obtain ⟨⟨ds, st1⟩, e1, e2⟩ := bind_some e
  dsimp only at e2
  split at e2
  · rename_i hz
    cases e2
    refine ⟨st, sd, G, ds, st', rel, e1, fun vs sd1 G1 H1 p1 k1 => ⟨by rw [k1.length]; exact most_le hz, fun p hp => ?_⟩⟩
    exact q _ sd1 _ _ (p1.trans (p1.rel.postN hp)) (RRel.early (p1.rel.newL hp k1) p1)
  · cases e2
theorem pe_dic0 : PE X (.Dict [] [] pos) (rd X.K fun st => some (.val (.dict []), st)) := PEimp pe_dnewK fun σ H Q ⟨st, sd, G, r, st', rel, e, q⟩ => by
  cases e
  exact fun p hp => q _ sd _ _ (rel.postG hp) (.dic0 upd_same)
/-! ### slices, [::-1] -/
def rdO (K : PySem.W.Frag) (φ : Stt → Option (Option Int × Stt)) : L2.TO := fun σ H Q => ∃ st sd G d st', Rel K st sd G σ H ∧ φ st = some (d, st') ∧ ∀ sd' G' H', Post K st sd G σ H st' sd' G' H' → Q d H'
theorem POimp {X : Cx} {e : Option Expr} {t t' : L2.TO} (h : PO X e t) (i : ∀ σ H Q, t' σ H Q → t σ H Q) : PO X e t' := ⟨fun pins s σ H Q I q => h.run pins s σ H Q I (i _ _ _ q)⟩
theorem po_no : PO X none (rdO X.K fNoI) := POimp po_none fun σ H Q ⟨st, sd, G, d, st', rel, e, q⟩ => by
  cases e; exact q sd G H (.refl rel)
theorem po_so (h : PE X e (rd X.K φ)) : PO X (some e) (rdO X.K (fSoI φ)) := POimp (po_some (toRead h)) fun σ H Q ⟨st, sd, G, d, st', rel, e, q⟩ => by
  obtain ⟨⟨i, st1⟩, e1, e2⟩ := map_some e
  cases e2
  obtain ⟨⟨d1, st2⟩, e3, e4⟩ := bind_some e1
  cases d1 with
  | int j =>
    cases e4
    exact ⟨st, sd, G, _, _, rel, e3, fun v sd' G' H' p k => ⟨i, k.int, q sd' G' H' p⟩⟩
  | _ => cases e4
theorem pe_fSl {lo hi : Option Expr} {l h : Stt → Option (Option Int × Stt)} {p2 : Pos} (ha : PE X a (rd X.K φ)) (hl : PO X lo (rdO X.K l)) (hh : PO X hi (rdO X.K h)) : PE X (.Subscript a (.Slice lo hi none p2) pos) (rd X.K (fSl φ l h)) :=
  PEimp (pe_slice od_sl (toRead ha) hl hh) fun σ H Q ⟨st, sd, G, r, st', rel, e, q⟩ => by
  obtain ⟨⟨d1, st1⟩, e1, e2⟩ := bind_some e
  obtain ⟨⟨i, st2⟩, e3, e4⟩ := bind_some e2
  obtain ⟨⟨j, st3⟩, e5, e6⟩ := bind_some e4
  obtain ⟨r', e7, e8⟩ := map_some e6
  cases e8
  refine ⟨st, sd, G, d1, st1, rel, e1, fun v sd1 G1 H1 p1 k1 => ⟨st1, sd1, G1, i, st2, p1.rel, e3, fun sd2 G2 H2 p2 => ⟨st2, sd2, G2, j, st3, p2.rel, e5, fun sd3 G3 H3 p3 => ?_⟩⟩⟩
  have p := (p1.trans p2).trans p3
  exact ⟨st3, sd3, G3, σ, d1, r, p3.rel, (k1.post p2).post p3, e7, fun w G4 H4 p4 rr => q w sd3 G4 H4 (p.trans p4) (RRel.early rr p)⟩
theorem pe_fRev {k : Nat} {p1 p2 p3 : Pos} (ha : PE X a (rd X.K φ)) : PE X (.Subscript a (.Slice none none (some (.UnaryOp .USub (.Constant (.int 1) k p1) p2)) p3) pos) (rd X.K (fUn revD φ)) :=
  PEimp (pe_revA (toRead ha)) fun σ H Q ⟨st, sd, G, r, st', rel, e, q⟩ => by
  obtain ⟨⟨d1, st1⟩, e1, e2⟩ := bind_some e
  obtain ⟨r', e5, e6⟩ := map_some e2
  cases e6
  refine ⟨st, sd, G, d1, st1, rel, e1, fun v sd1 G1 H1 p1 k1 => ?_⟩
  cases d1 <;> simp only [revD, reduceCtorEq, Option.some.injEq] at e5
  · subst e5
    obtain ⟨a, vs, rfl, h1, h2, h3⟩ := k1.list p1.rel
    exact ⟨a, vs, rfl, .inl ⟨SqL.of h1, fun p hp => q _ sd1 _ _ (p1.trans (p1.rel.postN hp)) (RRel.early (p1.rel.newL hp h2.reverse) p1)⟩⟩
  · subst e5
    obtain ⟨a, vs, rfl, h1, h2⟩ := k1.tuple
    exact ⟨a, vs, rfl, .inr ⟨sqT_mono p1.rel.sub h1, fun p hp => q _ sd1 _ _ (p1.trans (p1.rel.postG hp)) (p1.rel.newT hp h2.reverse)⟩⟩
/-! ### calls -/
theorem bl_read {cd : List D → Option R} {ρ : PhL} {σ : List (Option V)} {H : Hp} {Q : VK} (h : rd X.K (fBl cd ρ) σ H Q) : tCB (rCD X.K cd) (rdR X.K ρ) σ H Q := by
  obtain ⟨st, sd, G, r, st', rel, e, q⟩ := h
  obtain ⟨⟨ds, st1⟩, e1, e2⟩ := bind_some e
  obtain ⟨r', e5, e6⟩ := map_some e2
  cases e6
  exact ⟨st, sd, G, ds, st1, rel, e1, fun vs sd1 G1 H1 p1 k1 => ⟨st1, sd1, G1, σ, ds, r, p1.rel, k1, e5, fun w G3 H3 p3 rr => q w sd1 G3 H3 (p1.trans p3) (RRel.early rr p1)⟩⟩
theorem pe_fIsi {t : Ty} {pn pm : Pos} (ha : PE X a (rd X.K φ)) (hg : Gl X "isinstance") (hm : X.mg "isinstance" = none) (gt : Gl X (Str.ofString t.name)) (mt : X.mg (Str.ofString t.name) = none)
    (na : starEach [a, .Name (Str.ofString t.name) pm] X.env = (false, eval a X.env) :: starEach [.Name (Str.ofString t.name) pm] X.env) :
    PE X (.Call (.Name "isinstance" pn) [a, .Name (Str.ofString t.name) pm] [] pos) (rd X.K (fUn (fun d => some (.val (.bool (isB t d)))) φ)) := by
  have hb : bootBuiltins (Str.ofString t.name) = some (.type t.name) := by cases t <;> decide +kernel
  have hn : Str.ofString t.name ≠ "__name__" := by cases t <;> decide +kernel
  have hd : (Str.ofString t.name == ("__debug__" : Str)) = false := by cases t <;> decide +kernel
  have tt : PE X (.Name (Str.ofString t.name) pm) (tC (.ty t.name)) := pe_bltn gt mt hb rfl hn hd
  refine PEimp (pe_callB (od_isi t) hg hm (by decide +kernel) (pa_cons (toRead ha) (pa_cons tt pa_nil) na) (he := na)) fun σ H Q ⟨st, sd, G, r, st', rel, e, q⟩ => ?_
  obtain ⟨⟨d1, st1⟩, e1, e2⟩ := bind_some e
  cases e2
  exact ⟨st, sd, G, d1, _, rel, e1, fun v sd1 G1 H1 p1 k1 => ⟨_, sd1, G1, σ, d1, v, rfl, p1.rel, k1, q _ sd1 G1 H1 p1 (.bl _)⟩⟩
/-- behind a call: the caller's state -/
theorem Post.lift {K : PySem.W.Frag} {st : Stt} {S' : Option Src} {sd sd' : Addr × Addr} {G G' H H' : Hp} {σ : List (Option V)} (rel : Rel K st sd G σ H) (p : Post K ⟨[], st.S⟩ sd G [] H ⟨[], S'⟩ sd' G' H') : Post K st sd G σ H { st with S := S' } sd' G' H' := by
  have dom : ∀ a, G a = none → G' a ≠ none → H a = none := fun a h h' => by
    rcases p.dom a h h' with z | ⟨i, ds, z, _⟩
    · exact z
    · simp at z
  refine ⟨⟨p.rel.sub, rel.len, fun i x e => ?_, rel.dis, p.rel.src⟩, p.ext, p.keep, fun a h h' => .inl (dom a h h'), p.sdk, p.new, fun i => .inl rfl⟩
  have q := rel.sl i x e
  cases x with
  | un => trivial
  | val d =>
    obtain ⟨v, h1, h2⟩ := q
    exact ⟨v, h1, h2.mono p.ext⟩
  | own ds =>
    obtain ⟨a, vs, h1, h2, h3, h4, h5⟩ := q
    refine ⟨a, vs, h1, p.keep _ _ h2 h5, ?_, h4.mono p.ext, p.apart h2 h5⟩
    cases e2 : G' a with
    | none => rfl
    | some o =>
      have := dom a h3 (by rw [e2]; simp)
      rw [h2] at this; cases this
  | src =>
    obtain ⟨h1, h2⟩ := q
    obtain ⟨k1, rfl⟩ := p.sdk h2
    exact ⟨h1, k1⟩
  | cel =>
    obtain ⟨h1, h2⟩ := q
    obtain ⟨k1, rfl⟩ := p.sdk h2
    exact ⟨h1, k1⟩
  | scr ns =>
    obtain ⟨a, h1, h2⟩ := q
    exact ⟨a, h1, p.ext.seq h2⟩
theorem Rel.bare {K : PySem.W.Frag} {st : Stt} {sd : Addr × Addr} {G H : Hp} {σ : List (Option V)} (r : Rel K st sd G σ H) : Rel K ⟨[], st.S⟩ sd G [] H :=
  ⟨r.sub, rfl, fun i x e => by simp at e, fun i j ds es a e => by simp at e, r.src⟩
theorem call_read {n : Nat} {F : Fn} {ρ : Stt → Option (List A × Stt)} (hn : ∀ args S r, F args S = some r → args.length = n) {σ : List (Option V)} {H : Hp} {Q : VK} (h : rd X.K (fCall F ρ) σ H Q) : tCallG (spF X.K n F) (rdA X.K ρ) σ H Q := by
  obtain ⟨st, sd, G, r, st', rel, e, q⟩ := h
  obtain ⟨⟨args, st1⟩, e1, e2⟩ := bind_some e
  obtain ⟨⟨r', S'⟩, e5, e6⟩ := map_some e2
  refine ⟨st, sd, G, args, st1, rel, e1, fun vs sd1 G1 H1 p1 k1 => ⟨G1, st1.S, sd1, args, r', S', p1.rel.bare, k1, hn _ _ _ e5, e5, fun v sd2 G2 H2 p2 a2 => ?_⟩⟩
  cases e6
  have p := p2.lift p1.rel
  refine q v sd2 G2 H2 (p1.trans p) ?_
  cases r' with
  | val d => exact a2
  | src => exact a2
  | scr ns => exact a2
end
/-! ### own lists that are lent -/
noncomputable def cutG (G : Hp) (M : Addr → Prop) : Hp := fun b => open Classical in if M b then none else G b
theorem cutG_some {G : Hp} {M : Addr → Prop} {b : Addr} {o : HO} (h : G b = some o) (hm : ¬ M b) : cutG G M b = some o := by unfold cutG; rw [if_neg hm]; exact h
theorem cutG_le {G : Hp} {M : Addr → Prop} {b : Addr} {o : HO} (h : cutG G M b = some o) : G b = some o ∧ ¬ M b := by
  unfold cutG at h
  split at h
  · cases h
  · exact ⟨h, by assumption⟩
theorem cutG_none {G : Hp} {M : Addr → Prop} {b : Addr} (h : G b = none) : cutG G M b = none := by
  unfold cutG
  split
  · rfl
  · exact h
mutual
theorem En.less {K : PySem.W.Frag} {G : Hp} {M : Addr → Prop} : ∀ {v : V} {d : D}, En K G v d → (∀ b, M b → ∃ vs, G b = some (.lst vs) ∧ noL vs.length d = true) → En K (cutG G M) v d
  | _, _, .non, _ => .non
  | _, _, .bl b, _ => .bl b
  | _, _, .int i, _ => .int i
  | _, _, .str x, _ => .str x
  | _, _, @En.lst _ _ a xs ds h l, q => .lst (cutG_some h fun m => by
      obtain ⟨vs, h1, h2⟩ := q a m
      rw [h] at h1; cases h1
      simp [noL, l.length] at h2) (EnL.less l fun b m => by
      obtain ⟨vs, h1, h2⟩ := q b m
      simp only [noL, Bool.and_eq_true] at h2
      exact ⟨vs, h1, h2.2⟩)
  | _, _, @En.tup _ _ a xs ds h l, q => .tup (by
      rcases h with (h | ⟨o, h⟩) | h
      · exact .inl (.inl (cutG_some h fun m => by obtain ⟨vs, h1, _⟩ := q a m; rw [h] at h1; cases h1))
      · exact .inl (.inr ⟨o, cutG_some h fun m => by obtain ⟨vs, h1, _⟩ := q a m; rw [h] at h1; cases h1⟩)
      · exact .inr h) (EnL.less l fun b m => by
      obtain ⟨vs, h1, h2⟩ := q b m
      exact ⟨vs, h1, by simpa only [noL] using h2⟩)
  | _, _, @En.dic0 _ _ a h, q => .dic0 (cutG_some h fun m => by obtain ⟨vs, h1, _⟩ := q a m; rw [h] at h1; cases h1)
theorem EnL.less {K : PySem.W.Frag} {G : Hp} {M : Addr → Prop} : ∀ {vs : List V} {ds : List D}, EnL K G vs ds → (∀ b, M b → ∃ vs, G b = some (.lst vs) ∧ noLs vs.length ds = true) → EnL K (cutG G M) vs ds
  | _, _, .nil, _ => .nil
  | _, _, .cons h l, q => .cons (En.less h fun b m => by
      obtain ⟨vs, h1, h2⟩ := q b m
      simp only [noLs, Bool.and_eq_true] at h2
      exact ⟨vs, h1, h2.1⟩) (EnL.less l fun b m => by
      obtain ⟨vs, h1, h2⟩ := q b m
      simp only [noLs, Bool.and_eq_true] at h2
      exact ⟨vs, h1, h2.2⟩)
end
theorem keepOk_at : ∀ {g g' : List SV} {d : D}, keepOk g g' d = true → g.length = g'.length → ∀ (i : Nat) (ds : List D), g[i]? = some (.own ds) → (∃ es, g'[i]? = some (.own es)) ∨ noL ds.length d = true
  | [], _, _, _, _, i, ds, e => by simp at e
  | x :: g, [], _, _, hl, _, _, _ => by simp at hl
  | x :: g, y :: g', d, h, hl, i, ds, e => by
    have hr : keepOk g g' d = true := by cases x <;> simp [keepOk] at h <;> first | exact h | exact h.2
    have hl' : g.length = g'.length := by simpa using hl
    cases i with
    | succ i => exact keepOk_at hr hl' i ds (by simpa using e)
    | zero =>
      simp only [List.getElem?_cons_zero, Option.some.injEq] at e
      subst e
      cases y with
      | own es => exact .inl ⟨es, rfl⟩
      | _ => exact .inr (by simp [keepOk] at h; exact h.1)
section
variable {X : Cx}
theorem keep_read {φ : Ph} {σ : List (Option V)} {H : Hp} {Q : VK} (h : rd X.K (fKeep φ) σ H Q) : rd X.K φ σ H Q := by
  obtain ⟨st, sd, G, r, st', rel, e, q⟩ := h
  obtain ⟨⟨r1, st1⟩, e1, e2⟩ := bind_some e
  cases r1 with
  | val d =>
    dsimp only at e2
    split at e2
    · rename_i hk
      cases e2
      refine ⟨st, sd, G, _, st1, rel, e1, fun v sd' G' H' p k => ?_⟩
      have k : En X.K G' v d := k
      have ka := keepOk_at hk (rel.len.trans p.rel.len.symm)
      let M : Addr → Prop := fun b => ∃ (i : Nat) (ds : List D), st.γ[i]? = some (.own ds) ∧ σ[i]? = some (some (.ref b)) ∧ ¬ ∃ es, st1.γ[i]? = some (.own es)
      have mG : ∀ b, M b → G b = none := fun b ⟨i, ds, m1, m2, _⟩ => by
        obtain ⟨a, vs, w1, _, w3, _⟩ := rel.sl i _ m1
        rw [m2] at w1; cases w1; exact w3
      have mL : ∀ b, M b → ∃ vs, G' b = some (.lst vs) ∧ noL vs.length d = true := fun b ⟨i, ds, m1, m2, m3⟩ => by
        rcases p.shp i with w | ⟨es, w1, w2⟩
        · exact absurd ⟨ds, w.trans m1⟩ m3
        · rw [m1] at w1; cases w1
          obtain ⟨v', z1, z2⟩ := p.rel.sl i _ w2
          rw [m2] at z1; cases z1
          cases z2 with
          | lst y1 y2 =>
            refine ⟨_, y1, ?_⟩
            rw [y2.length]
            rcases ka i ds m1 with w | w
            · exact absurd w m3
            · exact w
      have ext : Same G (cutG G' M) := fun b o hb => cutG_some (p.ext _ _ hb) fun m => by rw [mG b m] at hb; cases hb
      refine q v sd' (cutG G' M) H' ⟨⟨fun b o hb => p.rel.sub _ _ (cutG_le hb).1, rel.len, fun i x hx => ?_, rel.dis, fun s hs => ?_⟩, ext, p.keep, fun a h1 h2 => p.dom a h1 fun z => h2 (cutG_none z), p.sdk, p.new, fun i => .inl rfl⟩ (k.less mL)
      · have w := rel.sl i x hx
        cases x with
        | un => trivial
        | val d' =>
          obtain ⟨v', w1, w2⟩ := w
          exact ⟨v', w1, w2.mono ext⟩
        | own ds =>
          obtain ⟨a, vs, w1, w2, w3, w4, w5⟩ := w
          refine ⟨a, vs, w1, p.keep _ _ w2 w5, ?_, w4.mono ext, p.apart w2 w5⟩
          by_cases hm : ∃ es, st1.γ[i]? = some (.own es)
          · obtain ⟨es, he⟩ := hm
            obtain ⟨a', vs', y1, _, y3, _⟩ := p.rel.sl i _ he
            rw [w1] at y1; cases y1
            exact cutG_none y3
          · unfold cutG
            rw [if_pos ⟨i, ds, hx, w1, hm⟩]
        | src =>
          obtain ⟨w1, w2⟩ := w
          obtain ⟨y1, rfl⟩ := p.sdk w2
          exact ⟨w1, y1⟩
        | cel =>
          obtain ⟨w1, w2⟩ := w
          obtain ⟨y1, rfl⟩ := p.sdk w2
          exact ⟨w1, y1⟩
        | scr ns =>
          obtain ⟨a, w1, w2⟩ := w
          exact ⟨a, w1, ext.seq w2⟩
      · obtain ⟨y1, y2, y3, y4⟩ := p.rel.src s hs
        exact ⟨y1, cutG_none y2, cutG_none y3, y4⟩
    · cases e2
  | _ => cases e2
end
end DE

set_option Elab.async false
set_option linter.all false
set_option maxRecDepth 100000
set_option maxHeartbeats 2000000
set_option autoImplicit false
/-! What is walked, targets, comprehensions. -/
namespace DE
open PySem PySem.Spec PyProof.Rows L2

section
variable {K : PySem.W.Frag} {st st' st1 st2 : Stt} {sd sd' sd1 sd2 : Addr × Addr} {G G' G1 G2 H H' H1 H2 : Hp} {σ σ' : List (Option V)}
/-! ### slots -/
theorem Rel.setV (r : Rel K st sd G σ H) {v : V} {d : D} (h : En K G v d) (i : Nat) : Rel K { st with γ := st.γ.set i (.val d) } sd G (σ.set i (some v)) H := by
  refine ⟨r.sub, by simpa using r.len, fun j x e => ?_, fun j k ds es a e1 e2 e3 e4 => ?_, r.src⟩
  · by_cases hj : i = j
    · subst hj
      have hi : i < st.γ.length := by
        have := (List.getElem?_eq_some_iff.mp e).1
        simpa using this
      rw [List.getElem?_set_self hi] at e
      cases e
      exact ⟨v, by rw [List.getElem?_set_self (by rw [← r.len]; exact hi)], h⟩
    · rw [List.getElem?_set_ne hj] at e
      rw [List.getElem?_set_ne hj]
      exact r.sl j x e
  · have nj : ∀ {j : Nat} {ds : List D}, (st.γ.set i (.val d))[j]? = some (.own ds) → i ≠ j := fun {j ds} e z => by
      subst z
      by_cases hi : i < st.γ.length
      · rw [List.getElem?_set_self hi] at e; cases e
      · rw [List.getElem?_eq_none (by simpa using hi)] at e; cases e
    have h1 := nj e1
    have h2 := nj e2
    rw [List.getElem?_set_ne h1] at e1 e3
    rw [List.getElem?_set_ne h2] at e2 e4
    exact r.dis j k ds es a e1 e2 e3 e4
theorem Rel.setU (r : Rel K st sd G σ H) (i : Nat) (o : Option V) : Rel K { st with γ := st.γ.set i .un } sd G (σ.set i o) H := by
  refine ⟨r.sub, by simpa using r.len, fun j x e => ?_, fun j k ds es a e1 e2 e3 e4 => ?_, r.src⟩
  · by_cases hj : i = j
    · subst hj
      have hi : i < st.γ.length := by
        have := (List.getElem?_eq_some_iff.mp e).1
        simpa using this
      rw [List.getElem?_set_self hi] at e
      cases e
      trivial
    · rw [List.getElem?_set_ne hj] at e
      rw [List.getElem?_set_ne hj]
      exact r.sl j x e
  · have nj : ∀ {j : Nat} {ds : List D}, (st.γ.set i .un)[j]? = some (.own ds) → i ≠ j := fun {j ds} e z => by
      subst z
      by_cases hi : i < st.γ.length
      · rw [List.getElem?_set_self hi] at e; cases e
      · rw [List.getElem?_eq_none (by simpa using hi)] at e; cases e
    have h1 := nj e1
    have h2 := nj e2
    rw [List.getElem?_set_ne h1] at e1 e3
    rw [List.getElem?_set_ne h2] at e2 e4
    exact r.dis j k ds es a e1 e2 e3 e4
theorem Rel.wipe (r : Rel K st sd G σ H) : ∀ own : List Nat, Rel K ⟨wipeG st.γ own, st.S⟩ sd G (wipe σ own) H
  | [] => r
  | i :: own => (Rel.wipe r own).setU i none
theorem wipeG_get {γ : List SV} {j : Nat} : ∀ {own : List Nat}, j ∉ own → (wipeG γ own)[j]? = γ[j]?
  | [], _ => rfl
  | i :: own, h => by
    simp only [List.mem_cons, not_or] at h
    unfold wipeG
    rw [List.getElem?_set_ne (Ne.symm h.1)]
    exact wipeG_get h.2
theorem wipeG_length {γ : List SV} : ∀ own : List Nat, (wipeG γ own).length = γ.length
  | [] => rfl
  | i :: own => by unfold wipeG; rw [List.length_set, wipeG_length own]
theorem wipeG_un {γ : List SV} {j : Nat} : ∀ {own : List Nat} {x : SV}, j ∈ own → (wipeG γ own)[j]? = some x → x = .un
  | i :: own, x, h, e => by
    unfold wipeG at e
    by_cases hj : i = j
    · subst hj
      by_cases hi : i < (wipeG γ own).length
      · rw [List.getElem?_set_self hi] at e; cases e; rfl
      · rw [List.getElem?_eq_none (by simpa using hi)] at e; cases e
    · rw [List.getElem?_set_ne hj] at e
      rcases List.mem_cons.mp h with z | z
      · exact absurd z.symm hj
      · exact wipeG_un z e
theorem wipe_get {j : Nat} : ∀ {own : List Nat}, j ∉ own → (wipe σ own)[j]? = σ[j]?
  | [], _ => rfl
  | i :: own, h => by
    simp only [List.mem_cons, not_or] at h
    unfold wipe
    rw [List.getElem?_set_ne (Ne.symm h.1)]
    exact wipe_get h.2
theorem wipe_set {v : Option V} {i : Nat} : ∀ {own : List Nat}, i ∈ own → wipe (σ.set i v) own = wipe σ own
  | k :: own, h => by
    unfold wipe
    by_cases hk : i ∈ own
    · rw [wipe_set hk]
    · rcases List.mem_cons.mp h with z | z
      · subst z
        have key : ∀ own : List Nat, i ∉ own → wipe (σ.set i v) own = (wipe σ own).set i v := by
          intro own
          induction own with
          | nil => intro _; rfl
          | cons k own ih =>
            intro h
            simp only [List.mem_cons, not_or] at h
            unfold wipe
            rw [ih h.2, List.set_comm _ _ h.1]
        rw [key own hk, List.set_set]
      · exact absurd z hk
theorem restG_get {γ γ' : List SV} {own : List Nat} {j : Nat} (hl : γ.length = γ'.length) : (restG γ γ' own)[j]? = if j ∈ own then γ[j]? else γ'[j]? := by
  unfold restG
  rw [List.getElem?_zipWith]
  by_cases hj : j < γ'.length
  · have h1 : (List.range γ'.length)[j]? = some j := by simp [hj]
    have h2 : γ'[j]? = some γ'[j] := by simp [hj]
    have h3 : γ[j]? = some (γ[j]'(by omega)) := by simp [hl, hj]
    rw [h1, h2]
    by_cases ho : j ∈ own
    · simp only [ho, if_true, h3]
      simp [List.getD, h3]
    · simp only [ho, if_false]
  · have h1 : (List.range γ'.length)[j]? = none := by simp; omega
    have h2 : γ'[j]? = none := by simp; omega
    have h3 : γ[j]? = none := by simp; omega
    rw [h1, h2, h3]; simp

/-! ### targets -/
/-- a tuple or a list is unpacked -/
def gTL (K : PySem.W.Frag) (n : Nat) (t : TGs) : TG := fun v σ H Q => gTup K n t v σ H Q ∨ gUnl K n t v σ H Q
mutual
def gOf (K : PySem.W.Frag) : Tg → TG
  | .name i => gName i
  | .tup ts => gTL K ts.length (gsOf K ts)
def gsOf (K : PySem.W.Frag) : List Tg → TGs
  | [] => gNil
  | t :: ts => gCons (gOf K t) (gsOf K ts)
end
/-- what is known behind a target's binding -/
def Bound (K : PySem.W.Frag) (S : Option Src) (sd : Addr × Addr) (G H : Hp) (γ' : List SV) (sl : List Nat) (γ : List SV) (σ : List (Option V)) (σ' : List (Option V)) (H' : Hp) : Prop :=
  H = H' ∧ Rel K ⟨γ', S⟩ sd G σ' H ∧ (∀ own : List Nat, (∀ i ∈ sl, i ∈ own) → wipe σ' own = wipe σ own) ∧
    (∀ i, i ∉ sl → γ'[i]? = γ[i]? ∧ σ'[i]? = σ[i]?) ∧ (∀ i x, i ∈ sl → γ'[i]? = some x → γ[i]? = some x ∨ ∃ d, x = .val d)
theorem Bound.refl {γ : List SV} {S : Option Src} (r : Rel K ⟨γ, S⟩ sd G σ H) : Bound K S sd G H γ [] γ σ σ H := ⟨rfl, r, fun _ _ => rfl, fun _ _ => ⟨rfl, rfl⟩, fun _ _ h => by simp at h⟩
mutual
theorem gOf_ok {S : Option Src} : ∀ (t : Tg) {v : V} {d : D} {γ γ' : List SV} {σ : List (Option V)} {Q : List (Option V) → Hp → Prop}, Rel K ⟨γ, S⟩ sd G σ H → En K G v d → bindT t d γ = some γ' →
    (∀ σ' H', Bound K S sd G H γ' t.slots γ σ σ' H' → Q σ' H') → gOf K t v σ H Q
  | .name i, v, d, γ, γ', σ, Q, r, h, e, q => by
    simp only [bindT, Option.some.injEq] at e
    subst e
    refine q _ H ⟨rfl, r.setV h i, fun own ho => ?_, fun j hj => ?_, fun j x hj hx => ?_⟩
    · exact wipe_set (ho i (by simp [Tg.slots]))
    · have : i ≠ j := fun z => hj (by simp [Tg.slots, z])
      exact ⟨List.getElem?_set_ne this, List.getElem?_set_ne this⟩
    · have : j = i := by simpa [Tg.slots] using hj
      subst this
      by_cases hi : j < γ.length
      · rw [List.getElem?_set_self hi] at hx; cases hx; exact .inr ⟨d, rfl⟩
      · rw [List.getElem?_eq_none (by simpa using hi)] at hx; cases hx
  | .tup ts, v, d, γ, γ', σ, Q, r, h, e, q => by
    cases d with
    | tuple ds =>
      cases h with
      | tup h1 h2 =>
        simp only [bindT] at e
        refine .inl ⟨_, _, rfl, sqT_mono r.sub h1, ?_, ?_⟩
        · rw [h2.length]; exact (bindTs_len ts ds e).symm
        · exact gsOf_ok ts r h2 e (by simpa [Tg.slots] using q)
    | list ds =>
      cases h with
      | lst h1 h2 =>
        simp only [bindT] at e
        refine .inr ⟨_, _, rfl, SqL.of (r.sub _ _ h1), ?_, ?_⟩
        · rw [h2.length]; exact (bindTs_len ts ds e).symm
        · exact gsOf_ok ts r h2 e (by simpa [Tg.slots] using q)
    | _ => simp [bindT] at e
theorem gsOf_ok {S : Option Src} : ∀ (ts : List Tg) {vs : List V} {ds : List D} {γ γ' : List SV} {σ : List (Option V)} {Q : List (Option V) → Hp → Prop}, Rel K ⟨γ, S⟩ sd G σ H → EnL K G vs ds → bindTs ts ds γ = some γ' →
    (∀ σ' H', Bound K S sd G H γ' (slotsL ts) γ σ σ' H' → Q σ' H') → gsOf K ts vs σ H Q
  | [], vs, ds, γ, γ', σ, Q, r, h, e, q => by
    cases ds with
    | nil =>
      simp only [bindTs, Option.some.injEq] at e
      subst e
      cases h
      exact ⟨rfl, q _ _ (Bound.refl r)⟩
    | cons a b => simp [bindTs] at e
  | t :: ts, vs, ds, γ, γ', σ, Q, r, h, e, q => by
    cases ds with
    | nil => simp [bindTs] at e
    | cons a b =>
      cases h with
      | @cons v vs _ _ h1 h2 =>
      simp only [bindTs] at e
      obtain ⟨γ1, e1, e2⟩ := bind_some e
      refine ⟨_, _, rfl, gOf_ok t r h1 e1 fun σ1 H1 b1 => ?_⟩
      obtain ⟨rfl, r1, w1, n1, v1⟩ := b1
      refine gsOf_ok ts r1 h2 e2 fun σ2 H2 b2 => ?_
      obtain ⟨rfl, r2, w2, n2, v2⟩ := b2
      refine q σ2 _ ⟨rfl, r2, fun own ho => ?_, fun i hi => ?_, fun i x hi hx => ?_⟩
      · rw [w2 own fun i hi => ho i (by simp [slotsL, hi]), w1 own fun i hi => ho i (by simp [slotsL, hi])]
      · have a1 : i ∉ t.slots := fun z => hi (by simp [slotsL, z])
        have a2 : i ∉ slotsL ts := fun z => hi (by simp [slotsL, z])
        exact ⟨(n2 i a2).1.trans (n1 i a1).1, (n2 i a2).2.trans (n1 i a1).2⟩
      · by_cases a2 : i ∈ slotsL ts
        · rcases v2 i x a2 hx with z | z
          · by_cases a1 : i ∈ t.slots
            · exact v1 i x a1 z
            · rw [(n1 i a1).1] at z; exact .inl z
          · exact .inr z
        · rw [(n2 i a2).1] at hx
          have a1 : i ∈ t.slots := by
            simp only [slotsL, List.mem_append] at hi
            exact hi.resolve_right a2
          exact v1 i x a1 hx
theorem bindTs_len : ∀ (ts : List Tg) (ds : List D) {γ γ' : List SV}, bindTs ts ds γ = some γ' → ts.length = ds.length
  | [], [], _, _, _ => rfl
  | [], _ :: _, _, _, e => by simp [bindTs] at e
  | _ :: _, [], _, _, e => by simp [bindTs] at e
  | t :: ts, d :: ds, γ, γ', e => by
    simp only [bindTs] at e
    obtain ⟨γ1, e1, e2⟩ := bind_some e
    simp [bindTs_len ts ds e2]
end

/-! ### what is walked -/
def YD (K : PySem.W.Frag) (G : Hp) (H : Hp) (x : V) (H' : Hp) (d : D) : Prop :=
  (H' = H ∧ En K G x d) ∨ ∃ T x1 x2 d1 d2, x = .ref T ∧ d = .tuple [d1, d2] ∧ H T = none ∧ H' = upd H T (.tup [x1, x2]) ∧ En K G x1 d1 ∧ En K G x2 d2
def WalkD (K : PySem.W.Frag) (J : L2.It) (G : Hp) (items : List D) : Prop := Walk J items.length (fun H => Same G H) (fun i H x H' => ∃ d, items[i]? = some d ∧ YD K G H x H' d)
/-- an item has come -/
theorem YD.post {Ga : Hp} {x : V} {d : D} (y : YD K Ga H x H' d) (r : Rel K st sd G σ H) (hg : Same Ga G) : ∃ G', Post K st sd G σ H st sd G' H' ∧ En K G' x d := by
  rcases y with ⟨rfl, h⟩ | ⟨T, x1, x2, d1, d2, rfl, rfl, hT, rfl, h1, h2⟩
  · exact ⟨G, .refl r, h.mono hg⟩
  · exact ⟨_, r.postG hT, r.newT hT (.cons (h1.mono hg) (.cons (h2.mono hg) .nil))⟩
theorem walkD_list {a : Addr} {vs : List V} {ds : List D} (h : G a = some (.lst vs)) (l : EnL K G vs ds) : WalkD K (Itl K a) G ds := by
  unfold WalkD
  rw [← l.length]
  refine walk_list.mono (fun H s => SqL.of (s _ _ h)) fun i H x H' hi s y => ?_
  obtain ⟨rfl, hx⟩ := y
  obtain ⟨d, h1, h2⟩ := l.get' hx
  exact ⟨d, h1, .inl ⟨rfl, h2⟩⟩
theorem walkD_seq {a : Addr} {vs : List V} {ds : List D} (h : SqL K G a vs) (l : EnL K G vs ds) : WalkD K (Itl K a) G ds := by
  unfold WalkD
  rw [← l.length]
  refine walk_list.mono (fun H s => s.seq h) fun i H x H' hi s y => ?_
  obtain ⟨rfl, hx⟩ := y
  obtain ⟨d, h1, h2⟩ := l.get' hx
  exact ⟨d, h1, .inl ⟨rfl, h2⟩⟩
theorem walkD_tup {a : Addr} {vs : List V} {ds : List D} (h : SqT K G a vs) (l : EnL K G vs ds) : WalkD K (Itt K a) G ds := by
  unfold WalkD
  rw [← l.length]
  refine walk_tup.mono (fun H s => sqT_mono s h) fun i H x H' hi s y => ?_
  obtain ⟨rfl, hx⟩ := y
  obtain ⟨d, h1, h2⟩ := l.get' hx
  exact ⟨d, h1, .inl ⟨rfl, h2⟩⟩
theorem walkD_range {lo : Int} {n : Nat} : WalkD K (Itr lo n) G ((List.range n).map fun i => .int (lo + (i : Nat))) := by
  unfold WalkD
  rw [List.length_map, List.length_range]
  refine walk_range.mono (fun H s => trivial) fun i H x H' hi s y => ?_
  obtain ⟨rfl, rfl⟩ := y
  exact ⟨.int (lo + (i : Nat)), by simp [hi], .inl ⟨rfl, .int _⟩⟩
theorem walkD_rangeC {lo c : Int} {n : Nat} : WalkD K (Itc lo c n) G ((List.range n).map fun i => .int (lo + (i : Nat) * c)) := by
  unfold WalkD
  rw [List.length_map, List.length_range]
  refine walk_rangeC.mono (fun H s => trivial) fun i H x H' hi s y => ?_
  obtain ⟨rfl, rfl⟩ := y
  exact ⟨.int (lo + (i : Nat) * c), by simp [hi], .inl ⟨rfl, .int _⟩⟩
def enumD (ds : List D) : List D := (List.range ds.length).zipWith (fun i x => .tuple [.int (i : Nat), x]) ds
theorem enumD_length (ds : List D) : (enumD ds).length = ds.length := by simp [enumD]
theorem enumD_get {ds : List D} {i : Nat} {d : D} (h : ds[i]? = some d) : (enumD ds)[i]? = some (.tuple [.int (i : Nat), d]) := by
  have hi := (List.getElem?_eq_some_iff.mp h).1
  unfold enumD
  rw [List.getElem?_zipWith, h]
  have e : (List.range ds.length)[i]? = some i := by simp [hi]
  rw [e]
theorem walkD_enumL {a : Addr} {vs : List V} {ds : List D} (h : G a = some (.lst vs)) (l : EnL K G vs ds) : WalkD K (Ite K a) G (enumD ds) := by
  unfold WalkD
  rw [enumD_length, ← l.length]
  refine walk_enum.mono (fun H s => SqL.of (s _ _ h)) fun i H x H' hi s y => ?_
  obtain ⟨T, x1, x2, rfl, hT, rfl, e1, e2⟩ := y
  cases e1
  obtain ⟨d, h1, h2⟩ := l.get' e2
  exact ⟨_, enumD_get h1, .inr ⟨T, _, _, _, _, rfl, rfl, hT, rfl, .int _, h2⟩⟩
theorem walkD_enumT {a : Addr} {vs : List V} {ds : List D} (h : SqT K G a vs) (l : EnL K G vs ds) : WalkD K (IteT K a) G (enumD ds) := by
  unfold WalkD
  rw [enumD_length, ← l.length]
  refine walk_enumT.mono (fun H s => sqT_mono s h) fun i H x H' hi s y => ?_
  obtain ⟨T, x1, x2, rfl, hT, rfl, e1, e2⟩ := y
  cases e1
  obtain ⟨d, h1, h2⟩ := l.get' e2
  exact ⟨_, enumD_get h1, .inr ⟨T, _, _, _, _, rfl, rfl, hT, rfl, .int _, h2⟩⟩
def zipD (ds es : List D) : List D := List.zipWith (fun a b => .tuple [a, b]) ds es
theorem walkD_zipL {a b : Addr} {vs ws : List V} {ds es : List D} (h : G a = some (.lst vs)) (l : EnL K G vs ds) (h' : G b = some (.lst ws)) (l' : EnL K G ws es) : WalkD K (Itz K a b) G (zipD ds es) := by
  unfold WalkD
  have e0 : (zipD ds es).length = min vs.length ws.length := by simp [zipD, l.length, l'.length]
  rw [e0]
  refine (walk_zip rfl).mono (fun H s => ⟨SqL.of (s _ _ h), SqL.of (s _ _ h')⟩) fun i H x H' hi s y => ?_
  obtain ⟨T, x1, x2, rfl, hT, rfl, e1, e2⟩ := y
  obtain ⟨d, h1, h2⟩ := l.get' e1
  obtain ⟨e, h3, h4⟩ := l'.get' e2
  refine ⟨.tuple [d, e], ?_, .inr ⟨T, _, _, _, _, rfl, rfl, hT, rfl, h2, h4⟩⟩
  unfold zipD
  rw [List.getElem?_zipWith, h1, h3]
theorem walkD_zipT {a b : Addr} {vs ws : List V} {ds es : List D} (h : SqT K G a vs) (l : EnL K G vs ds) (h' : SqT K G b ws) (l' : EnL K G ws es) : WalkD K (RZ.ItzT K a b) G (zipD ds es) := by
  unfold WalkD
  have e0 : (zipD ds es).length = min vs.length ws.length := by simp [zipD, l.length, l'.length]
  rw [e0]
  refine (walk_zipT rfl).mono (fun H s => ⟨sqT_mono s h, sqT_mono s h'⟩) fun i H x H' hi s y => ?_
  obtain ⟨T, x1, x2, rfl, hT, rfl, e1, e2⟩ := y
  obtain ⟨d, h1, h2⟩ := l.get' e1
  obtain ⟨e, h3, h4⟩ := l'.get' e2
  refine ⟨.tuple [d, e], ?_, .inr ⟨T, _, _, _, _, rfl, rfl, hT, rfl, h2, h4⟩⟩
  unfold zipD
  rw [List.getElem?_zipWith, h1, h3]
def rdI (K : PySem.W.Frag) (φ : PhL) : TI := fun σ H R => ∃ st sd G ds st', Rel K st sd G σ H ∧ φ st = some (ds, st') ∧
  ∀ J sd' G' H', Post K st sd G σ H st' sd' G' H' → WalkD K J G' ds → R J H'
theorem PIimp {X : Cx} {tg e : Expr} {t t' : TI} (h : PI X tg e t) (i : ∀ σ H Q, t' σ H Q → t σ H Q) : PI X tg e t' := ⟨fun pins s σ H Q I q => h.run pins s σ H Q I (i _ _ _ q)⟩
theorem PIor {X : Cx} {tg e : Expr} {t t' : TI} (h : PI X tg e t) (h' : PI X tg e t') : PI X tg e (fun σ H Q => t σ H Q ∨ t' σ H Q) :=
  ⟨fun pins s σ H Q I q => q.elim (h.run pins s σ H Q I) (h'.run pins s σ H Q I)⟩
section
variable {X : Cx} {tg e a b c : Expr} {φ ψ : Ph}
theorem pi_fSeq (h : PE X e (rd X.K φ)) : PI X tg e (rdI X.K (fSeq φ)) := by
  refine PIimp (PIor (pi_list (toVal h)) (pi_tup (toVal h))) fun σ H R ⟨st, sd, G, ds, st', rel, e, q⟩ => ?_
  obtain ⟨⟨d, st1⟩, e1, e2⟩ := bind_some e
  obtain ⟨xs, e3, e4⟩ := map_some e2
  cases e4
  cases d with
  | list xs' =>
    cases e3
    refine .inl ⟨st, sd, G, _, _, rel, e1, fun v sd1 G1 H1 p1 k1 => ?_⟩
    cases k1 with
    | lst h1 h2 => exact ⟨_, rfl, ⟨_, SqL.of (p1.rel.sub _ _ h1)⟩, q _ sd1 G1 H1 p1 (walkD_list h1 h2)⟩
  | tuple xs' =>
    cases e3
    refine .inr ⟨st, sd, G, _, _, rel, e1, fun v sd1 G1 H1 p1 k1 => ?_⟩
    cases k1 with
    | tup h1 h2 => exact ⟨_, rfl, ⟨_, sqT_mono p1.rel.sub h1⟩, q _ sd1 G1 H1 p1 (walkD_tup h1 h2)⟩
  | _ => cases e3
theorem pi_fEnum {elts : List Expr} {kk : Nat} {tpos p pos : Pos} (hg : Gl X "enumerate") (hm : X.mg "enumerate" = none) (h : PE X e (rd X.K φ)) (hs : starEach [e] X.env = (false, eval e X.env) :: starEach [] X.env) :
    PI X (.Tuple elts kk tpos) (.Call (.Name "enumerate" p) [e] [] pos) (rdI X.K (fEnum φ)) := by
  refine PIimp (pi_enumA hg hm (pa_cons (toVal h) pa_nil hs) hs) fun σ H R ⟨st, sd, G, ds, st', rel, e, q⟩ => ?_
  obtain ⟨⟨d, st1⟩, e1, e2⟩ := bind_some e
  obtain ⟨xs, e3, e4⟩ := map_some e2
  cases e4
  refine ⟨st, sd, G, _, _, rel, e1, fun v sd1 G1 H1 p1 k1 => ?_⟩
  cases d with
  | list xs' =>
    cases e3
    cases k1 with
    | lst h1 h2 => exact ⟨_, _, rfl, .inl ⟨SqL.of (p1.rel.sub _ _ h1), q _ sd1 G1 H1 p1 (walkD_enumL h1 h2)⟩⟩
  | tuple xs' =>
    cases e3
    cases k1 with
    | tup h1 h2 => exact ⟨_, _, rfl, .inr ⟨sqT_mono p1.rel.sub h1, q _ sd1 G1 H1 p1 (walkD_enumT h1 h2)⟩⟩
  | _ => cases e3
theorem pi_fZip {elts : List Expr} {kk : Nat} {tpos p pos : Pos} (hg : Gl X "zip") (hm : X.mg "zip" = none) (ha : PE X a (rd X.K φ)) (hb : PE X b (rd X.K ψ))
    (hs : starEach [a, b] X.env = (false, eval a X.env) :: starEach [b] X.env) (hs2 : starEach [b] X.env = (false, eval b X.env) :: starEach [] X.env) :
    PI X (.Tuple elts kk tpos) (.Call (.Name "zip" p) [a, b] [] pos) (rdI X.K (fZip φ ψ)) := by
  have hpl : (backTo pos (starEach [b] X.env)).any (·.1) = false := by rw [hs2]; rfl
  refine PIimp (RZ.pi_zipA hg hm (pa_cons (toVal ha) (pa_cons (toVal hb) pa_nil hs2) hs) hs hpl) fun σ H R ⟨st, sd, G, ds, st', rel, e, q⟩ => ?_
  obtain ⟨⟨d, st1⟩, e1, e2⟩ := bind_some e
  obtain ⟨⟨d2, st2⟩, e3, e4⟩ := bind_some e2
  refine ⟨st, sd, G, _, _, rel, e1, fun v sd1 G1 H1 p1 k1 => ⟨_, sd1, G1, _, _, p1.rel, e3, fun u sd2 G2 H2 p2 k2 => ?_⟩⟩
  have k1' := k1.mono p2.ext
  have p := p1.trans p2
  cases d with
  | list xs =>
    cases d2 with
    | list ys =>
      cases e4
      cases k1' with
      | lst h1 h2 =>
        cases k2 with
        | lst h3 h4 => exact ⟨_, _, _, _, rfl, .inl ⟨SqL.of (p2.rel.sub _ _ h1), SqL.of (p2.rel.sub _ _ h3), q _ sd2 G2 H2 p (walkD_zipL h1 h2 h3 h4)⟩⟩
    | _ => cases e4
  | tuple xs =>
    cases d2 with
    | tuple ys =>
      cases e4
      cases k1' with
      | tup h1 h2 =>
        cases k2 with
        | tup h3 h4 => exact ⟨_, _, _, _, rfl, .inr ⟨sqT_mono p2.rel.sub h1, sqT_mono p2.rel.sub h3, q _ sd2 G2 H2 p (walkD_zipT h1 h2 h3 h4)⟩⟩
    | _ => cases e4
  | _ => cases e4
theorem rng_one {ρ : PhL} {p pos : Pos} (hg : Gl X "range") (hm : X.mg "range" = none) (ha : PA X [a] (rdR X.K ρ)) (hs : starEach [a] X.env = (false, eval a X.env) :: starEach [] X.env) (h1 : ∀ st ds st', ρ st = some (ds, st') → ds.length = 1) :
    PI X tg (.Call (.Name "range" p) [a] [] pos) (rdI X.K (fRng ρ)) := by
  refine PIimp (pi_range1 hg hm ha hs) fun σ H R ⟨st, sd, G, ds, st', rel, e, q⟩ => ?_
  obtain ⟨⟨args, st1⟩, e1, e2⟩ := bind_some e
  obtain ⟨xs, e3, e4⟩ := map_some e2
  cases e4
  refine ⟨st, sd, G, _, _, rel, e1, fun vs sd1 G1 H1 p1 k1 => ?_⟩
  have hl := h1 _ _ _ e1
  replace e3 : rngD args = some _ := e3
  unfold rngD at e3
  split at e3
  · split at e3
    · rename_i n hz
      cases e3
      obtain ⟨v, rfl, p⟩ := Paired.one k1
      obtain rfl := p.int
      have hm : most = 1000000 := rfl
      refine ⟨n, rfl, by omega, by omega, q _ sd1 G1 H1 p1 ?_⟩
      have w := walkD_range (K := X.K) (G := G1) (lo := 0) (n := n.toNat)
      simpa using w
    · cases e3
  · simp at hl
  · simp at hl
  · cases e3
theorem rng_two {ρ : PhL} {p pos : Pos} (hg : Gl X "range") (hm : X.mg "range" = none) (ha : PA X [a, b] (rdR X.K ρ)) (hs : starEach [a, b] X.env = [(false, eval a X.env), (false, eval b X.env)]) (hs2 : starEach [b] X.env = [(false, eval b X.env)]) (h1 : ∀ st ds st', ρ st = some (ds, st') → ds.length = 2) :
    PI X tg (.Call (.Name "range" p) [a, b] [] pos) (rdI X.K (fRng ρ)) := by
  refine PIimp (pi_range2 hg hm ha hs hs2) fun σ H R ⟨st, sd, G, ds, st', rel, e, q⟩ => ?_
  obtain ⟨⟨args, st1⟩, e1, e2⟩ := bind_some e
  obtain ⟨xs, e3, e4⟩ := map_some e2
  cases e4
  refine ⟨st, sd, G, _, _, rel, e1, fun vs sd1 G1 H1 p1 k1 => ?_⟩
  have hl := h1 _ _ _ e1
  replace e3 : rngD args = some _ := e3
  unfold rngD at e3
  split at e3
  · simp at hl
  · split at e3
    · rename_i n m hz
      cases e3
      obtain ⟨v, w, rfl, p, p'⟩ := Paired.two k1
      obtain rfl := p.int
      obtain rfl := p'.int
      exact ⟨n, m, rfl, ⟨hz.1, hz.2.1, hz.2.2.1, hz.2.2.2.1⟩, q _ sd1 G1 H1 p1 walkD_range⟩
    · cases e3
  · simp at hl
  · simp at e3
theorem Paired.three {α β : Type} {F : α → β → Prop} {xs : List α} {y z w : β} (h : Paired F xs [y, z, w]) : ∃ a b c, xs = [a, b, c] ∧ F a y ∧ F b z ∧ F c w := by
  cases h with
  | cons a b =>
    obtain ⟨c, d, rfl, h1, h2⟩ := Paired.two b
    exact ⟨_, c, d, rfl, a, h1, h2⟩
theorem rng_three {ρ : PhL} {p pos : Pos} (hg : Gl X "range") (hm : X.mg "range" = none) (ha : PA X [a, b, c] (rdR X.K ρ)) (hs : starEach [a, b, c] X.env = (false, eval a X.env) :: starEach [b, c] X.env)
    (hpl : (backTo pos (starEach [b, c] X.env)).any (·.1) = false) (h1 : ∀ st ds st', ρ st = some (ds, st') → ds.length = 3) :
    PI X tg (.Call (.Name "range" p) [a, b, c] [] pos) (rdI X.K (fRng ρ)) := by
  refine PIimp (pi_range3 hg hm ha hs hpl) fun σ H R ⟨st, sd, G, ds, st', rel, e, q⟩ => ?_
  obtain ⟨⟨args, st1⟩, e1, e2⟩ := bind_some e
  obtain ⟨xs, e3, e4⟩ := map_some e2
  cases e4
  refine ⟨st, sd, G, _, _, rel, e1, fun vs sd1 G1 H1 p1 k1 => ?_⟩
  have hl := h1 _ _ _ e1
  replace e3 : rngD args = some _ := e3
  unfold rngD at e3
  split at e3
  · simp at hl
  · simp at hl
  · split at e3
    · rename_i n m c' hz
      cases e3
      obtain ⟨v, w, u, rfl, p, p', p2⟩ := Paired.three k1
      obtain rfl := p.int
      obtain rfl := p'.int
      obtain rfl := p2.int
      obtain ⟨rfl, hz⟩ := hz
      exact ⟨n, m, -1, (n - m).toNat, rfl, RgC.neg (by omega) (by omega) (by omega) (by omega), q _ sd1 G1 H1 p1 walkD_rangeC⟩
    · cases e3
  · simp at e3
end
end
end DE

set_option Elab.async false
set_option linter.all false
set_option maxRecDepth 100000
set_option maxHeartbeats 4000000
set_option autoImplicit false
/-! Comprehensions; the soundness of the language's expressions. -/
namespace DE
open PySem PySem.Spec PyProof.Rows L2

section
variable {K : PySem.W.Frag} {st st' st1 st2 st3 : Stt} {sd sd' sd1 sd2 sd3 : Addr × Addr} {G G' G1 G2 G3 H H' H1 H2 H3 : Hp} {σ σ' σ2 : List (Option V)}
/-- behind a block: the block's own slots as they were ahead -/
theorem Post.block {own : List Nat} {γ1 : List SV} {sl : List Nat} (r : Rel K st sd G σ H) (b : Bound K st.S sd G H γ1 sl (wipeG st.γ own) (wipe σ own) σ2 H) (hs : ∀ i ∈ sl, i ∈ own)
    (p : Post K ⟨γ1, st.S⟩ sd G σ2 H st3 sd3 G3 H3) : Post K st sd G σ H ⟨restG st.γ st3.γ own, st3.S⟩ sd3 G3 H3 := by
  obtain ⟨_, rb, wb, nb, vb⟩ := b
  have l1 : γ1.length = st.γ.length := by
    have h1 : γ1.length = σ2.length := rb.len
    have h2 : σ2.length = σ.length := by
      have := congrArg List.length (wb own hs)
      rw [wipe_length, wipe_length, wipe_length] at this
      exact this
    have h3 : st.γ.length = σ.length := r.len
    omega
  have hl3 : st3.γ.length = st.γ.length := by
    have h1 : st3.γ.length = σ2.length := p.rel.len
    have h2 : γ1.length = σ2.length := rb.len
    omega
  have g := fun j => restG_get (γ := st.γ) (γ' := st3.γ) (own := own) (j := j) hl3.symm
  have out : ∀ j, j ∉ own → γ1[j]? = st.γ[j]? ∧ σ2[j]? = σ[j]? := fun j hj => by
    have hj' : j ∉ sl := fun z => hj (hs j z)
    exact ⟨(nb j hj').1.trans (wipeG_get hj), (nb j hj').2.trans (wipe_get hj)⟩
  -- an own list of the block's state stands outside of own
  have ownOut : ∀ (i : Nat) (ds : List D), γ1[i]? = some (.own ds) → i ∉ own := fun i ds e hi => by
    by_cases hs' : i ∈ sl
    · rcases vb i _ hs' e with z | ⟨d, z⟩
      · have := wipeG_un hi z; cases this
      · cases z
    · rw [(nb i hs').1] at e
      have := wipeG_un hi e; cases this
  have owned3 : ∀ (i : Nat) (ds : List D), st3.γ[i]? = some (.own ds) → γ1[i]? = some (.own ds) := fun i ds e => by
    rcases p.shp i with z | ⟨es, z1, z2⟩
    · rw [← z]; exact e
    · rw [z2] at e; cases e
  have dom : ∀ a, G a = none → G3 a ≠ none → H a = none ∨ ∃ (i : Nat) (ds : List D), st.γ[i]? = some (.own ds) ∧ σ[i]? = some (some (.ref a)) ∧ i ∉ own := fun a h h' => by
    rcases p.dom a h h' with z | ⟨i, ds, z1, z2⟩
    · exact .inl z
    · have ho := ownOut i ds z1
      obtain ⟨o1, o2⟩ := out i ho
      exact .inr ⟨i, ds, by rw [← o1]; exact z1, by rw [← o2]; exact z2, ho⟩
  refine ⟨⟨p.rel.sub, ?_, fun j x e => ?_, fun i j ds es a e1 e2 z1 z2 => ?_, p.rel.src⟩, p.ext, p.keep, fun a h h' => ?_, p.sdk, p.new, fun j => ?_⟩
  · show (restG st.γ st3.γ own).length = σ.length
    unfold restG
    have := r.len
    simp only [List.length_zipWith, List.length_range, Nat.min_self]
    omega
  · have e : (restG st.γ st3.γ own)[j]? = some x := e
    rw [g j] at e
    by_cases hj : j ∈ own
    · rw [if_pos hj] at e
      have q := r.sl j x e
      cases x with
      | un => trivial
      | val d =>
        obtain ⟨v, h1, h2⟩ := q
        exact ⟨v, h1, h2.mono p.ext⟩
      | own ds =>
        obtain ⟨a, vs, h1, h2, h3, h4, h5⟩ := q
        refine ⟨a, vs, h1, p.keep _ _ h2 h5, ?_, h4.mono p.ext, p.apart h2 h5⟩
        cases e3 : G3 a with
        | none => rfl
        | some o =>
          exfalso
          rcases dom a h3 (by rw [e3]; simp) with z | ⟨i, es, z1, z2, z3⟩
          · rw [h2] at z; cases z
          · exact z3 (by rw [r.dis i j es ds a z1 e z2 h1]; exact hj)
      | src =>
        obtain ⟨h1, h2⟩ := q
        obtain ⟨k1, rfl⟩ := p.sdk h2
        exact ⟨h1, k1⟩
      | cel =>
        obtain ⟨h1, h2⟩ := q
        obtain ⟨k1, rfl⟩ := p.sdk h2
        exact ⟨h1, k1⟩
      | scr ns =>
        obtain ⟨a, h1, h2⟩ := q
        exact ⟨a, h1, p.ext.seq h2⟩
    · rw [if_neg hj] at e
      have q := p.rel.sl j x e
      rw [(out j hj).2] at q
      exact q
  · have e1 : (restG st.γ st3.γ own)[i]? = some (.own ds) := e1
    have e2 : (restG st.γ st3.γ own)[j]? = some (.own es) := e2
    have key : ∀ (i : Nat) (ds : List D), (restG st.γ st3.γ own)[i]? = some (.own ds) → st.γ[i]? = some (.own ds) := fun i ds e => by
      rw [g i] at e
      by_cases hi : i ∈ own
      · rw [if_pos hi] at e; exact e
      · rw [if_neg hi] at e
        rw [← (out i hi).1]
        exact owned3 i ds e
    exact r.dis i j ds es a (key i ds e1) (key j es e2) z1 z2
  · rcases dom a h h' with z | ⟨i, ds, z1, z2, _⟩
    · exact .inl z
    · exact .inr ⟨i, ds, z1, z2⟩
  · show (restG st.γ st3.γ own)[j]? = _ ∨ ∃ ds, _ ∧ (restG st.γ st3.γ own)[j]? = _
    rw [g j]
    by_cases hj : j ∈ own
    · rw [if_pos hj]; exact .inl rfl
    · rw [if_neg hj, ← (out j hj).1]
      exact p.shp j
/-- an object that nothing here knows is written -/
theorem Rel.other (r : Rel K st sd G σ H) {a : Addr} {o : HO} (hg : G a = none) (ha : Apart st.S sd a) (no : ∀ (i : Nat) (es : List D), st.γ[i]? = some (.own es) → σ[i]? ≠ some (some (.ref a))) : Rel K st sd G σ (upd H a o) := by
  refine ⟨fun b u e => by rw [upd_ne (ne_of_none e hg)]; exact r.sub _ _ e, r.len, fun i x e => ?_, r.dis, fun s e => ?_⟩
  · have q := r.sl i x e
    cases x with
    | own ds =>
      obtain ⟨b, vs, h1, h2, h3⟩ := q
      have hb : b ≠ a := fun z => no i ds e (z ▸ h1)
      exact ⟨b, vs, h1, by rw [upd_ne hb]; exact h2, h3⟩
    | _ => exact q
  · obtain ⟨⟨k1, k2⟩, k3⟩ := r.src s e
    obtain ⟨a1, a2⟩ := ha (by rw [e]; simp)
    exact ⟨⟨by rw [upd_ne a1.symm]; exact k1, by rw [upd_ne a2.symm]; exact k2⟩, k3⟩
end
theorem wipe_in {σ : List (Option V)} {i : Nat} : ∀ {own : List Nat}, i ∈ own → (wipe σ own)[i]? = if i < σ.length then some none else none
  | k :: own, h => by
    unfold wipe
    by_cases hk : k = i
    · subst hk
      by_cases hl : k < σ.length
      · rw [if_pos hl, List.getElem?_set_self (by rw [wipe_length]; exact hl)]
      · rw [if_neg hl, List.getElem?_eq_none (by rw [List.length_set, wipe_length]; omega)]
    · rw [List.getElem?_set_ne hk]
      rcases List.mem_cons.mp h with z | z
      · exact absurd z.symm hk
      · exact wipe_in z
theorem wipe_wipe {σ : List (Option V)} (own : List Nat) : wipe (wipe σ own) own = wipe σ own := by
  apply List.ext_getElem?
  intro i
  by_cases h : i ∈ own
  · rw [wipe_in h, wipe_in h, wipe_length]
  · rw [wipe_get h]
/-! ### a comprehension -/
theorem lc_read {X : Cx} {own : List Nat} {tg : Tg} {φi : PhL} {φc : Stt → Option (Bool × Stt)} {φe : Stt → Option (D × Stt)} (hs : ∀ i ∈ tg.slots, i ∈ own) {σ : List (Option V)} {H : Hp} {Q : VK} (h : rd X.K (fLc own tg φi φc φe) σ H Q) :
    tLc (rdI X.K φi) (gOf X.K tg) (rdT X.K φc) (rdV X.K φe) own σ H Q := by
  obtain ⟨st, sd, G, r, st', rel, e, q⟩ := h
  obtain ⟨⟨items, st1⟩, e1, e2⟩ := bind_some e
  obtain ⟨⟨fin, stF⟩, e3, e4⟩ := map_some e2
  cases e4
  refine ⟨st, sd, G, items, st1, rel, e1, fun J sd1 G1 H1 p1 wk L hL => ?_⟩
  have hGL : G1 L = none := p1.rel.noneG hL
  refine lc_it wk (fun i Hm => ∃ acc vs st2 sd2 G2, Post X.K st1 sd1 G1 σ H1 st2 sd2 G2 Hm ∧ Hm L = some (.lst vs) ∧ G2 L = none ∧ EnL X.K G2 vs acc ∧ Apart st2.S sd2 L ∧ lcLoop own tg φc φe (items.drop i) acc st2 = some (fin, stF)) ?_ ?_ ?_ ?_
  · exact ⟨[], [], st1, sd1, G1, p1.rel.postN hL, upd_same, hGL, .nil, p1.rel.apartN hL, by simpa using e3⟩
  · rintro i Hm _ ⟨acc, vs, st2, sd2, G2, p2, _⟩
    exact p2.ext.trans p2.rel.sub
  · rintro i x Hm Hm' hi ⟨acc, vs, st2, sd2, G2, p2, hD, hG2, en, ap, ev⟩ ⟨d, hd, y⟩
    have hdrop : items.drop i = d :: items.drop (i + 1) := by
      rw [List.drop_eq_getElem_cons hi]
      have := (List.getElem?_eq_some_iff.mp hd).2
      rw [this]
    rw [hdrop] at ev
    simp only [lcLoop] at ev
    obtain ⟨γ1, b1, ev⟩ := bind_some ev
    obtain ⟨⟨k, st3⟩, c1, ev⟩ := bind_some ev
    obtain ⟨G3, p3, en3⟩ := y.post p2.rel p2.ext
    have hD3 : Hm' L = some (.lst vs) := p3.keep _ _ hD ap
    have noOwn : ∀ (st4 : Stt) (sd4 : Addr × Addr) (G4 H4 : Hp), Post X.K st1 sd1 G1 σ H1 st4 sd4 G4 H4 → ∀ (j : Nat) (es : List D), st4.γ[j]? = some (.own es) → σ[j]? ≠ some (some (.ref L)) := fun st4 sd4 G4 H4 p4 j es z1 z2 => by
      obtain ⟨_, ws, z3⟩ := p4.owned p1.rel z1 z2
      rw [hL] at z3; cases z3
    have noG : ∀ (st4 : Stt) (sd4 : Addr × Addr) (G4 H4 : Hp), Post X.K st2 sd2 G2 σ Hm st4 sd4 G4 H4 → G4 L = none := fun st4 sd4 G4 H4 p4 => by
      cases z : G4 L with
      | none => rfl
      | some o =>
        exfalso
        rcases p4.dom L hG2 (by rw [z]; simp) with w | ⟨j, es, w1, w2⟩
        · rw [hD] at w; cases w
        · exact noOwn _ _ _ _ p2 j es w1 w2
    have p23 := p2.trans p3
    refine gOf_ok tg (S := st2.S) (p3.rel.wipe own) en3 b1 fun σ2 H2 bd => ?_
    obtain rfl : Hm' = H2 := bd.1
    refine ⟨bd.2.2.1 own hs |>.trans ?_, ?_⟩
    · -- wiped twice
      exact wipe_wipe own
    · refine ⟨⟨γ1, st2.S⟩, sd2, G3, k, st3, bd.2.1, c1, fun sd4 G4 H4 p4 => ?_⟩
      cases k with
      | false =>
        rw [if_neg Bool.false_ne_true] at ev ⊢
        have pb := p3.trans (Post.block p3.rel bd hs p4)
        exact ⟨acc, vs, _, sd4, G4, p2.trans pb, pb.keep _ _ hD ap, noG _ _ _ _ pb, en.mono pb.ext, pb.apart hD ap, ev⟩
      | true =>
        rw [if_pos rfl] at ev ⊢
        obtain ⟨⟨x5, st5⟩, e5, ev⟩ := bind_some ev
        dsimp only at ev
        split at ev
        · rename_i hz
          refine ⟨st3, sd4, G4, x5, st5, p4.rel, e5, fun z sd5 G5 H5 p5 en5 => ?_⟩
          have pb := p3.trans (Post.block p3.rel bd hs (p4.trans p5))
          have pall := p2.trans pb
          have hD5 := pb.keep _ _ hD ap
          have hG5 := noG _ _ _ _ pb
          have ap5 := pb.apart hD ap
          refine ⟨vs, hD5, ?_, acc ++ [x5], vs ++ [z], _, sd5, G5, ⟨?_, pall.ext, fun a o ha hap => ?_, pall.dom, pall.sdk, pall.new, pall.shp⟩, upd_same, hG5, (en.mono pb.ext).append (.one en5), ap5, ev⟩
          · rw [en.length]; exact Nat.lt_of_lt_of_le hz (by rw [sizeLine_eq]; decide)
          · exact pall.rel.other hG5 ap5 (noOwn _ _ _ _ pall)
          · rw [upd_ne (ne_of_none ha hL)]
            exact pall.keep a o ha hap
        · cases ev
  · rintro Hm ⟨acc, vs, st2, sd2, G2, p2, hD, hG2, en, ap, ev⟩
    rw [List.drop_length] at ev
    simp only [lcLoop, Option.some.injEq, Prod.mk.injEq] at ev
    obtain ⟨rfl, rfl⟩ := ev
    refine q _ sd2 G2 Hm (p1.trans p2) ⟨L, vs, rfl, hD, en, hG2, p1.noneB hL, ap⟩
end DE

set_option Elab.async false
set_option linter.all false
set_option maxRecDepth 100000
set_option maxHeartbeats 4000000
set_option autoImplicit false
/-! The soundness of the language's expressions. -/
namespace DE
open PySem PySem.Spec PyProof.Rows L2

theorem star1 {e : Expr} {es : List Expr} {env : Env} (h : isStar e = false) : starEach (e :: es) env = (false, eval e env) :: starEach es env := by
  cases e <;> first | rfl | (exact absurd h (by simp [isStar]))
theorem starsNo {es : List Expr} {env : Env} {pos : Pos} (h : ∀ e ∈ es, isStar e = false) : (backTo pos (starEach es env)).any (·.1) = false := by
  induction es with
  | nil => rfl
  | cons e es ih =>
    rw [star1 (h e (by simp))]
    show (false || (backTo pos (starEach es env)).any (·.1)) = false
    rw [ih fun e he => h e (by simp [he])]
    rfl
theorem visOf {sc : Scope} {n : Str} (h : visC sc n = true) : Vis sc n := by
  unfold visC at h
  split at h
  · exact .inl (by assumption)
  · exact .inr (.inl (by assumption))
  · exact .inr (.inr (by assumption))
  · cases h
theorem locOf {sc : Scope} {n : Str} (h : locC sc n = true) : Loc sc n := by
  unfold locC at h
  split at h
  · exact .inl (by assumption)
  · exact .inr (by assumption)
  · cases h
theorem glOf {X : Cx} {sc : Scope} {n : Str} (e : X.env.scope = sc) (h : glC sc n = true) : Gl X n := by
  unfold glC at h
  split at h
  · show X.env.scope.names.lookup n = _
    rw [e]; assumption
  · cases h
theorem okOf {n : Str} (h : okN n = true) : (n == ("__debug__" : Str)) = false ∧ (n == ("__classdict__" : Str)) = false := by
  unfold okN at h
  simpa using h
structure Snd (X : Cx) (e : Expr) (φ : Ph) : Prop where
  pe : PE X e (rd X.K φ)
  pt : PT X e (rdT X.K (fT φ))
  pw : ∀ op vs p, e = .BoolOp op vs p → PW X e (rdT X.K (fT φ))
  ns : isStar e = false
theorem Snd.plain {X : Cx} {e : Expr} {φ : Ph} (h : PE X e (rd X.K φ)) (he : ∀ whole, isTrue e X.env whole = (do let v ← whole; standAt e.pos; holding [v] (truthy v))) (hb : ∀ op vs p, e ≠ .BoolOp op vs p) (ns : isStar e = false) : Snd X e φ :=
  ⟨h, toTest h he, fun op vs p z => absurd z (hb op vs p), ns⟩
theorem Fits.blk {X : Cx} {k : Nat} {x : Ctx} {Φ : Nat → Fn} {C : Nat → D} (f : Fits X k x Φ C) (s : Shared) (H : Hp) (scope : Scope) (cl : List (Str × Addr)) (Ca : Addr) (fp : List Addr) : Fits (X.blk s H scope (compEnvC scope cl Ca X.env) fp) k (x.blk scope) Φ C :=
  ⟨by show relS scope X.env.scope = relS scope x.sc; rw [f.sc], f.N, fun n h => h, ⟨f.cond.calm, f.cond.nd, f.cond.room, f.cond.gd, f.cond.blt, f.cond.fns, f.cond.cst, f.cond.gcd⟩⟩

/-! ### targets -/
mutual
theorem okT {Φ : Nat → Fn} {C : Nat → D} {k : Nat} : ∀ (t : Tg) {x : Ctx} {X : Cx} {e : Expr}, Fits X k x Φ C → chkT x t e = true → PG X e (gOf X.K t) ∧ isStar e = false
  | .name i, x, X, e, f, h => by
    simp only [chkT] at h
    split at h
    · simp only [Bool.and_eq_true, decide_eq_true_eq, Bool.or_eq_true] at h
      obtain ⟨⟨h1, h2⟩, h3⟩ := h
      refine ⟨pg_name f.cond.nd (by rw [f.N]; exact h1) (by rw [f.sc]; exact locOf h2) ?_, rfl⟩
      rcases h3 with z | z
      · exact .inl (f.fn _ z)
      · exact .inr (by rw [f.sc]; exact z)
    · cases h
  | .tup ts, x, X, e, f, h => by
    simp only [chkT] at h
    split at h
    · rename_i es kk pp
      simp only [Bool.and_eq_true, Bool.not_eq_true'] at h
      obtain ⟨h1, h2⟩ := h
      have hn : ∀ e ∈ es, isStar e = false := fun e he => by
        cases z : isStar e with
        | false => rfl
        | true => rw [List.any_eq_true.mpr ⟨e, he, z⟩] at h2; cases h2
      obtain ⟨q, hl⟩ := okTs ts f h1 hn
      have key : ∀ es : List Expr, (∀ e ∈ es, isStar e = false) → (assignEach es X.env).length = es.length ∧ (assignEach es X.env).findIdx? (·.1) = none := by
        intro es
        induction es with
        | nil => intro _; exact ⟨rfl, rfl⟩
        | cons e es ih =>
          intro hs
          obtain ⟨a1, a2⟩ := ih fun e he => hs e (by simp [he])
          have e1 : assignEach (e :: es) X.env = (false, assign e X.env) :: assignEach es X.env := by
            have := hs e (by simp)
            cases e <;> first | rfl | (exact absurd this (by simp [isStar]))
          rw [e1]
          exact ⟨by simp [a1], by simp [List.findIdx?_cons, a2]⟩
      obtain ⟨a1, a2⟩ := key es hn
      have p1 := pg_tup (X := X) (pos := pp) (k := kk) f.cond.calm q (by rw [a1, hl]) a2
      have p2 := pg_unl (X := X) (pos := pp) (k := kk) f.cond.calm q (by rw [a1, hl]) a2
      refine ⟨⟨fun pins s σ H v u Q I r hw => ?_⟩, rfl⟩
      rcases hw with hw | hw
      · exact p1.run pins s σ H v u Q I r hw
      · exact p2.run pins s σ H v u Q I r hw
    · cases h
theorem okTs {Φ : Nat → Fn} {C : Nat → D} {k : Nat} : ∀ (ts : List Tg) {x : Ctx} {X : Cx} {es : List Expr}, Fits X k x Φ C → chkTs x ts es = true → (∀ e ∈ es, isStar e = false) → PGs X es (gsOf X.K ts) ∧ es.length = ts.length
  | [], x, X, es, f, h, hn => by
    simp only [chkTs, List.isEmpty_iff] at h
    subst h
    exact ⟨pgs_nil, rfl⟩
  | t :: ts, x, X, es, f, h, hn => by
    simp only [chkTs] at h
    split at h
    · rename_i e r
      simp only [Bool.and_eq_true] at h
      obtain ⟨q1, q2⟩ := okT t f h.1
      obtain ⟨q3, q4⟩ := okTs ts f h.2 fun e he => hn e (by simp [he])
      refine ⟨pgs_cons q1 q3 ?_, by simp [q4]⟩
      cases e <;> first | rfl | (exact absurd q2 (by simp [isStar]))
    · cases h
end
theorem bltMg {X : Cx} {k : Nat} {x : Ctx} {Φ : Nat → Fn} {C : Nat → D} (f : Fits X k x Φ C) {want n : Str} (h : bltC x want n = true) (hm : want ∈ bltNames) : n = want ∧ Gl X n ∧ X.mg n = none := by
  unfold bltC at h
  simp only [Bool.and_eq_true, decide_eq_true_eq] at h
  obtain ⟨rfl, h2⟩ := h
  exact ⟨rfl, glOf f.sc h2, f.cond.blt _ hm⟩
theorem lookupMem {α : Type} {l : List (Str × α)} {n : Str} {v : α} (h : l.lookup n = some v) : (n, v) ∈ l := PySem.mem_of_lookup h
/-- the lengths of argument lists -/
theorem evr_len (Φ : Nat → Fn) (C : Nat → D) : ∀ (es : List Ex) (st : Stt) (ds : List D) (st' : Stt), evr Φ C es st = some (ds, st') → ds.length = es.length
  | [], st, ds, st', h => by
    simp only [evr, fNil, Option.some.injEq, Prod.mk.injEq] at h
    rw [← h.1]; rfl
  | e :: es, st, ds, st', h => by
    simp only [evr, fCons] at h
    obtain ⟨⟨d, s1⟩, h1, h2⟩ := bind_some h
    obtain ⟨⟨ds', s2⟩, h3, h4⟩ := map_some h2
    cases h4
    simp [evr_len Φ C es _ _ _ h3]
theorem pe_blt {X : Cx} {k : Nat} {x : Ctx} {Φ : Nat → Fn} {C : Nat → D} (F : Fits X k x Φ C) (f : Bl) {n : Str} {pn pos : Pos} {e : Expr} {es : List Expr} {ρ : PhL} (h : bltC x f.nm n = true) (ha : PA X (e :: es) (rdR X.K ρ))
    (he : starEach (e :: es) X.env = (false, eval e X.env) :: starEach es X.env) (hpl : (backTo pos (starEach es X.env)).any (·.1) = false) : PE X (.Call (.Name n pn) (e :: es) [] pos) (rd X.K (fBl (blD f) ρ)) := by
  have hc := F.cond.calm
  have hu := F.cond.room.units
  cases f with
  | len => obtain ⟨rfl, g, m⟩ := bltMg F h (by decide +kernel); exact PEimp (pe_callB od_len g m (by decide +kernel) ha (by decide +kernel) (by decide +kernel) he hpl) fun σ H Q q => bl_read q
  | abs => obtain ⟨rfl, g, m⟩ := bltMg F h (by decide +kernel); exact PEimp (pe_callB od_abs g m (by decide +kernel) ha (by decide +kernel) (by decide +kernel) he hpl) fun σ H Q q => bl_read q
  | int => obtain ⟨rfl, g, m⟩ := bltMg F h (by decide +kernel); exact PEimp (pe_callTy od_int g m (by decide +kernel) ha (by decide +kernel) (by decide +kernel) he hpl) fun σ H Q q => bl_read q
  | max => obtain ⟨rfl, g, m⟩ := bltMg F h (by decide +kernel); exact PEimp (pe_callB (od_max2 hc) g m (by decide +kernel) ha (by decide +kernel) (by decide +kernel) he hpl) fun σ H Q q => bl_read q
  | min => obtain ⟨rfl, g, m⟩ := bltMg F h (by decide +kernel); exact PEimp (pe_callB (od_min2 hc) g m (by decide +kernel) ha (by decide +kernel) (by decide +kernel) he hpl) fun σ H Q q => bl_read q
  | list => obtain ⟨rfl, g, m⟩ := bltMg F h (by decide +kernel); exact PEimp (pe_callTy od_list g m (by decide +kernel) ha (by decide +kernel) (by decide +kernel) he hpl) fun σ H Q q => bl_read q
  | tuple => obtain ⟨rfl, g, m⟩ := bltMg F h (by decide +kernel); exact PEimp (pe_callTy od_tuple g m (by decide +kernel) ha (by decide +kernel) (by decide +kernel) he hpl) fun σ H Q q => bl_read q
  | all => obtain ⟨rfl, g, m⟩ := bltMg F h (by decide +kernel); exact PEimp (pe_callB (od_all hc) g m (by decide +kernel) ha (by decide +kernel) (by decide +kernel) he hpl) fun σ H Q q => bl_read q
  | any => obtain ⟨rfl, g, m⟩ := bltMg F h (by decide +kernel); exact PEimp (pe_callB (od_any hc) g m (by decide +kernel) ha (by decide +kernel) (by decide +kernel) he hpl) fun σ H Q q => bl_read q
  | sum => obtain ⟨rfl, g, m⟩ := bltMg F h (by decide +kernel); exact PEimp (pe_callB (od_sum hc) g m (by decide +kernel) ha (by decide +kernel) (by decide +kernel) he hpl) fun σ H Q q => bl_read q
  | repr => obtain ⟨rfl, g, m⟩ := bltMg F h (by decide +kernel); exact PEimp (pe_callB (od_repr F.cond.gd hu) g m (by decide +kernel) ha (by decide +kernel) (by decide +kernel) he hpl) fun σ H Q q => bl_read q

theorem od_bop {X : Cx} : ∀ op : Bop, OpR X (binaryOp op.of) (rBD X.K (bopD op))
  | .add => od_add | .sub => od_sub | .mul => od_mul | .fdiv => od_fdiv | .mod => od_mod | .pow => od_pow
theorem od_cop {X : Cx} (hu : X.A.units + 65 < cLine) : ∀ op : Cop, OpR X (compareOp op.of) (rBD X.K (copD op))
  | .eq => od_eq (by omega) | .ne => od_ne (by omega) | .lt => od_lt | .le => od_le | .gt => od_gt | .ge => od_ge | .is => od_is | .isn => od_isn | .mem => od_mem hu | .nmem => od_nmem hu
theorem cop_mark (op : Cop) (b : Expr) (h : isSetE b = false) : behindInMarks op.of b = false := by
  cases b <;> first | rfl | cases h
theorem cop_last (o1 o2 : Cop) (b c : Expr) (h : isSetE c = false) : lastMarks [o1.of, o2.of] [b, c] = false := by
  show behindInMarks o2.of c = false
  exact cop_mark o2 c h
theorem rel_const {X : Cx} {e : Expr} {v : V} {d : D} (h : PE X e (tC v)) (hd : ∀ G, En X.K G v d) : PE X e (rd X.K fun st => some (.val d, st)) := PEimp h fun σ H Q ⟨st, sd, G, r, st', rel, e, q⟩ => by
  cases e
  exact q v sd G H (.refl rel) (hd G)
theorem rel_var {X : Cx} {e : Expr} {i : Nat} (h : PE X e (tVar i)) (Φ : Nat → Fn) (C : Nat → D) : PE X e (rd X.K (ev Φ C (.var i))) := PEimp h fun σ H Q ⟨st, sd, G, r, st', rel, e, q⟩ => by
  simp only [ev] at e
  split at e
  · rename_i d hd
    cases e
    obtain ⟨v, h1, h2⟩ := rel.sl i _ hd
    exact ⟨v, h1, q v sd G H (.refl rel) h2⟩
  · rename_i ds hd
    cases e
    obtain ⟨a, vs, h1, h2⟩ := rel.sl i _ hd
    exact ⟨_, h1, q _ sd G H (.refl rel) ⟨h1, .inl ⟨ds, hd⟩⟩⟩
  · rename_i hd
    cases e
    obtain ⟨h1, h2⟩ := rel.sl i _ hd
    exact ⟨_, h1, q _ sd G H (.refl rel) ⟨rfl, h2⟩⟩
  · rename_i ns hd
    cases e
    obtain ⟨a, h1, h2⟩ := rel.sl i _ hd
    exact ⟨_, h1, q _ sd G H (.refl rel) ⟨a, rfl, h2⟩⟩
  · cases e

/-! ### the drawing source -/
theorem src_get {H : Hp} {sd : Addr × Addr} {s : Src} (h : SrcAt H sd s) (f : SF) : DGet H sd.1 (.str f.nm) (some (.int (f.get s))) := by
  have e : valV (srcFs sd.2 s) (.inr f.nm) = some (.int (f.get s)) := by cases f <;> rfl
  rw [← e]
  exact DGet.k (k := .inr f.nm) h.1
theorem src_cells {H : Hp} {sd : Addr × Addr} {s : Src} (h : SrcAt H sd s) : DGet H sd.1 (.str "cells") (some (.ref sd.2)) := by
  have e : valV (srcFs sd.2 s) (.inr "cells") = some (.ref sd.2) := rfl
  rw [← e]
  exact DGet.k (k := .inr "cells") h.1
theorem src_put {H : Hp} {sd : Addr × Addr} {s : Src} (h : SrcAt H sd s) (f : SF) (i : Int) : DPut H sd.1 (.str f.nm) (.int i) (upd H sd.1 (.dK (srcFs sd.2 (f.put s i)))) := by
  have e : putK (srcFs sd.2 s) (.inr f.nm) (.int i) = srcFs sd.2 (f.put s i) := by cases f <;> rfl
  rw [← e]
  exact DPut.k (k := .inr f.nm) h.1 (by rw [sizeLine_eq]; show 4 < 16777216; decide)
theorem srcAt_eq {st : Stt} {i : Nat} {s : Src} (h : srcAt st i = some s) : st.γ[i]? = some .src ∧ st.S = some s := by
  unfold srcAt at h
  split at h
  · exact ⟨by assumption, h⟩
  · cases h
theorem celAt_eq {st : Stt} {i : Nat} {s : Src} (h : celAt st i = some s) : st.γ[i]? = some .cel ∧ st.S = some s := by
  unfold celAt at h
  split at h
  · exact ⟨by assumption, h⟩
  · cases h
theorem scrAt_eq {st : Stt} {i : Nat} {ns : List Int} (h : scrAt st i = some ns) : st.γ[i]? = some (.scr ns) := by
  unfold scrAt at h
  split at h
  · rename_i e; cases h; exact e
  · cases h
theorem varOf {Φ : Nat → Fn} {C : Nat → D} {k : Nat} {x : Ctx} {X : Cx} {i : Nat} {y : Str} {p : Pos} (f : Fits X k x Φ C) (h : varC x i y = true) : PE X (.Name y p) (tVar i) := by
  unfold varC at h
  simp only [Bool.and_eq_true, decide_eq_true_eq] at h
  obtain ⟨⟨h1, h2⟩, h3⟩ := h
  obtain ⟨h3, h4⟩ := okOf h3
  exact pe_var (by rw [f.N]; exact h1) (by rw [f.sc]; exact visOf h2) h3 h4
theorem units1 {k : Nat} {X : Cx} (r : Room k X.A) : X.A.units + 1 < cLine := by have := r.units; omega
end DE

set_option Elab.async false
set_option linter.all false
set_option maxRecDepth 100000
set_option maxHeartbeats 8000000
set_option autoImplicit false
/-! The soundness of the language's expressions: by induction. -/
namespace DE
open PySem PySem.Spec PyProof.Rows L2

theorem gcdMg {X : Cx} {k : Nat} {x : Ctx} {Φ : Nat → Fn} {C : Nat → D} (f : Fits X k x Φ C) {n : Str} (h : bltC x "gcd" n = true) (hg : x.gcd = true) : n = "gcd" ∧ Gl X n ∧ X.mg n = some (.builtin "math.gcd") := by
  unfold bltC at h
  simp only [Bool.and_eq_true, decide_eq_true_eq] at h
  obtain ⟨rfl, h2⟩ := h
  exact ⟨rfl, glOf f.sc h2, f.cond.gcd hg⟩
def isSlice : Expr → Bool
  | .Slice .. => true
  | _ => false
def isSetD : Expr → Bool
  | .Set .. => true
  | _ => false
theorem okE_noSlice {x : Ctx} : ∀ (c : Ex) {e : Expr}, chkE x c e = true → isSlice e = false := by
  intro c e h
  cases e <;> first | rfl | (cases c <;> simp [chkE] at h)
theorem okE_noSet {x : Ctx} : ∀ (c : Ex) {e : Expr}, chkE x c e = true → isSetD e = false := by
  intro c e h
  cases e <;> first | rfl | (cases c <;> simp [chkE] at h)
theorem okI_noSet {x : Ctx} : ∀ (c : EI) {tg e : Expr}, chkI x c tg e = true → isSetD e = false := by
  intro c tg e h
  cases c with
  | seq a => simp only [chkI] at h; exact okE_noSet a h
  | rng es => cases e <;> first | rfl | (simp [chkI] at h)
  | enum a => cases e <;> first | rfl | (cases tg <;> simp [chkI] at h)
  | zip a b => cases e <;> first | rfl | (cases tg <;> simp [chkI] at h)
  | scr i => cases e <;> first | rfl | (simp [chkI] at h)
theorem rng_more {X : Cx} {tg e : Expr} {ρ : PhL} {es : List Expr} (_ : PA X es (rdR X.K ρ)) (h1 : ∀ st ds st', ρ st = some (ds, st') → 4 ≤ ds.length) : PI X tg e (rdI X.K (fRng ρ)) := by
  refine ⟨fun pins s σ H R I ⟨st, sd, G, ds, st', rel, e, q⟩ => ?_⟩
  exfalso
  obtain ⟨⟨args, st1⟩, e1, e2⟩ := bind_some e
  obtain ⟨xs, e3, e4⟩ := map_some e2
  have hl := h1 _ _ _ e1
  replace e3 : rngD args = some _ := e3
  unfold rngD at e3
  split at e3 <;> first | (simp at hl; done) | (cases e3; done)
def Ok (Φ : Nat → Fn) (C : Nat → D) (k : Nat) (c : Ex) : Prop := ∀ {x : Ctx} {X : Cx} {e : Expr}, Fits X k x Φ C → chkE x c e = true → Snd X e (ev Φ C c)
def OkI (Φ : Nat → Fn) (C : Nat → D) (k : Nat) (c : EI) : Prop := ∀ {x : Ctx} {X : Cx} {tg e : Expr}, Fits X k x Φ C → chkI x c tg e = true → PI X tg e (rdI X.K (evi Φ C c))
section
variable {Φ : Nat → Fn} {C : Nat → D} {k : Nat}
theorem okVs_of : ∀ {cs : List Ex}, (∀ c ∈ cs, Ok Φ C k c) → ∀ {x : Ctx} {X : Cx} {es : List Expr}, Fits X k x Φ C → chkEs x cs es = true → PA X es (rdL X.K (evs Φ C cs)) ∧ ∀ e ∈ es, isStar e = false := by
  intro cs
  induction cs with
  | nil =>
    intro _ x X es f h
    simp only [chkEs, List.isEmpty_iff] at h
    subst h
    exact ⟨nil_val, by simp⟩
  | cons c cs ih =>
    intro ho x X es f h
    simp only [chkEs] at h
    split at h
    · simp only [Bool.and_eq_true] at h
      have s := ho c (by simp) f h.1
      obtain ⟨q, ns⟩ := ih (fun c hc => ho c (by simp [hc])) f h.2
      exact ⟨PAimp (pa_cons (toVal s.pe) q (star1 s.ns)) fun σ H Q q => cons_val q, by simpa using ⟨s.ns, ns⟩⟩
    · cases h
theorem okSs_of : ∀ {cs : List Ex} (ss : List Bool), (∀ c ∈ cs, Ok Φ C k c) → ∀ {x : Ctx} {X : Cx} {es : List Expr}, Fits X k x Φ C → chkES x ss cs es = true → PA X es (rdL X.K (evS Φ C ss cs)) := by
  intro cs
  induction cs with
  | nil =>
    intro ss _ x X es f h
    simp only [chkES, List.isEmpty_iff] at h
    subst h
    exact nil_val
  | cons c cs ih =>
    intro ss ho x X es f h
    simp only [chkES] at h
    split at h
    · simp only [Bool.and_eq_true] at h
      have q := ih ss.tail (fun c hc => ho c (by simp [hc])) f h.2
      by_cases hs : ss.headD false = true
      · have h1 := h.1
        rw [if_pos hs] at h1
        split at h1
        · have s := ho c (by simp) f h1
          simp only [evS, if_pos hs]
          exact PAimp (StX.pa_star (toVal s.pe) q rfl) fun σ H Q q => star_val q
        · cases h1
      · have h1 := h.1
        rw [if_neg hs] at h1
        have s := ho c (by simp) f h1
        simp only [evS, if_neg hs]
        exact PAimp (pa_cons (toVal s.pe) q (star1 s.ns)) fun σ H Q q => cons_val q
    · cases h
theorem okRs_of : ∀ {cs : List Ex}, (∀ c ∈ cs, Ok Φ C k c) → ∀ {x : Ctx} {X : Cx} {es : List Expr}, Fits X k x Φ C → chkEs x cs es = true → PA X es (rdR X.K (evr Φ C cs)) ∧ ∀ e ∈ es, isStar e = false := by
  intro cs
  induction cs with
  | nil =>
    intro _ x X es f h
    simp only [chkEs, List.isEmpty_iff] at h
    subst h
    exact ⟨nil_read, by simp⟩
  | cons c cs ih =>
    intro ho x X es f h
    simp only [chkEs] at h
    split at h
    · simp only [Bool.and_eq_true] at h
      have s := ho c (by simp) f h.1
      obtain ⟨q, ns⟩ := ih (fun c hc => ho c (by simp [hc])) f h.2
      exact ⟨PAimp (pa_cons (toRead s.pe) q (star1 s.ns)) fun σ H Q q => cons_read q, by simpa using ⟨s.ns, ns⟩⟩
    · cases h
theorem okAs_of : ∀ {cs : List Ex}, (∀ c ∈ cs, Ok Φ C k c) → ∀ {x : Ctx} {X : Cx} {es : List Expr}, Fits X k x Φ C → chkEs x cs es = true → PA X es (rdA X.K (eva Φ C cs)) ∧ ∀ e ∈ es, isStar e = false := by
  intro cs
  induction cs with
  | nil =>
    intro _ x X es f h
    simp only [chkEs, List.isEmpty_iff] at h
    subst h
    exact ⟨nil_arg, by simp⟩
  | cons c cs ih =>
    intro ho x X es f h
    simp only [chkEs] at h
    split at h
    · simp only [Bool.and_eq_true] at h
      have s := ho c (by simp) f h.1
      obtain ⟨q, ns⟩ := ih (fun c hc => ho c (by simp [hc])) f h.2
      exact ⟨PAimp (pa_cons (toArg s.pe) q (star1 s.ns)) fun σ H Q q => cons_arg q, by simpa using ⟨s.ns, ns⟩⟩
    · cases h
theorem ok_var {i : Nat} : Ok Φ C k (.var i) := by
  intro x X e f h
  simp only [chkE] at h
  split at h
  · unfold varC at h
    simp only [Bool.and_eq_true, decide_eq_true_eq] at h
    obtain ⟨⟨h1, h2⟩, h3⟩ := h
    obtain ⟨h3, h4⟩ := okOf h3
    exact .plain (rel_var (pe_var (by rw [f.N]; exact h1) (by rw [f.sc]; exact visOf h2) h3 h4) Φ C) (fun _ => rfl) (fun _ _ _ => Expr.noConfusion) rfl
  · cases h

theorem ok_non : Ok Φ C k (.non) := by
  intro x X e f h
  simp only [chkE] at h
  split at h
  · exact .plain (rel_const pe_non fun _ => .non) (fun _ => rfl) (fun _ _ _ => Expr.noConfusion) rfl
  · cases h

theorem ok_bl {b : Bool} : Ok Φ C k (.bl b) := by
  intro x X e f h
  simp only [chkE] at h
  split at h
  · simp only [beq_iff_eq] at h
    subst h
    exact .plain (rel_const pe_bl fun _ => .bl _) (fun _ => rfl) (fun _ _ _ => Expr.noConfusion) rfl
  · cases h

theorem ok_int {i : Int} : Ok Φ C k (.int i) := by
  intro x X e f h
  simp only [chkE] at h
  split at h
  · simp only [decide_eq_true_eq] at h
    subst h
    exact .plain (rel_const pe_int fun _ => .int _) (fun _ => rfl) (fun _ _ _ => Expr.noConfusion) rfl
  · cases h

theorem ok_str {s : Str} : Ok Φ C k (.str s) := by
  intro x X e f h
  simp only [chkE] at h
  split at h
  · simp only [decide_eq_true_eq] at h
    subst h
    exact .plain (rel_const pe_str fun _ => .str _) (fun _ => rfl) (fun _ _ _ => Expr.noConfusion) rfl
  · cases h

theorem ok_cst {j : Nat} : Ok Φ C k (.cst j) := by
  intro x X e f h
  simp only [chkE] at h
  split at h
  · simp only [Bool.and_eq_true, decide_eq_true_eq] at h
    obtain ⟨⟨h1, h2⟩, h3⟩ := h
    obtain ⟨v, u, hm, r, en⟩ := f.cond.cst _ _ h2
    exact .plain (rel_const (pe_glob (glOf f.sc h1) hm r (okOf h3).1) en) (fun _ => rfl) (fun _ _ _ => Expr.noConfusion) rfl
  · cases h

theorem ok_bin {op : Bop} {a : Ex} {b : Ex} (ha_ : Ok Φ C k a) (hb_ : Ok Φ C k b) : Ok Φ C k (.bin op a b) := by
  intro x X e f h
  simp only [chkE] at h
  split at h
  · simp only [Bool.and_eq_true, beq_iff_eq] at h
    obtain ⟨⟨rfl, h1⟩, h2⟩ := h
    exact .plain (PEimp (pe_op (od_bop op) (toRead (ha_ f h1).pe) (toRead (hb_ f h2).pe)) fun σ H Q q => bin_read q) (fun _ => rfl) (fun _ _ _ => Expr.noConfusion) rfl
  · cases h

theorem ok_neg {a : Ex} (ha_ : Ok Φ C k a) : Ok Φ C k (.neg a) := by
  intro x X e f h
  simp only [chkE] at h
  split at h
  · exact .plain (PEimp (pe_un ud_neg (toRead (ha_ f h).pe)) fun σ H Q q => un_read q) (fun _ => rfl) (fun _ _ _ => Expr.noConfusion) rfl
  · cases h

theorem ok_not {a : Ex} (ha_ : Ok Φ C k a) : Ok Φ C k (.not a) := by
  intro x X e f h
  simp only [chkE] at h
  split at h
  · have s := ha_ f h
    exact ⟨pe_fNot s.pe, pt_fNot s.pt, fun _ _ _ => Expr.noConfusion, rfl⟩
  · cases h

theorem ok_and {a : Ex} {b : Ex} (ha_ : Ok Φ C k a) (hb_ : Ok Φ C k b) : Ok Φ C k (.and a b) := by
  intro x X e f h
  simp only [chkE] at h
  split at h
  · rename_i a' b' r p
    split at h
    · simp only [Bool.and_eq_true] at h
      have s := ha_ f h.1
      have t := hb_ f h.2
      have w := pw_fAnd (pos := p) s.pt (pw_and1 t.pt)
      exact ⟨pe_fAnd s.pe (pe_one t.pe), w.pt, fun op vs p' z => by cases z; exact w, rfl⟩
    · simp only [Bool.and_eq_true] at h
      have s := ha_ f h.1
      have t := hb_ f h.2
      have w := pw_fAnd (pos := p) s.pt (t.pw _ _ _ rfl)
      exact ⟨pe_fAnd s.pe t.pe, w.pt, fun op vs p' z => by cases z; exact w, rfl⟩
  · cases h

theorem ok_or {a : Ex} {b : Ex} (ha_ : Ok Φ C k a) (hb_ : Ok Φ C k b) : Ok Φ C k (.or a b) := by
  intro x X e f h
  simp only [chkE] at h
  split at h
  · rename_i a' b' r p
    split at h
    · simp only [Bool.and_eq_true] at h
      have s := ha_ f h.1
      have t := hb_ f h.2
      have w := pw_fOr (pos := p) s.pt (pw_or1 t.pt)
      exact ⟨pe_fOr s.pe (pe_one t.pe), w.pt, fun op vs p' z => by cases z; exact w, rfl⟩
    · simp only [Bool.and_eq_true] at h
      have s := ha_ f h.1
      have t := hb_ f h.2
      have w := pw_fOr (pos := p) s.pt (t.pw _ _ _ rfl)
      exact ⟨pe_fOr s.pe t.pe, w.pt, fun op vs p' z => by cases z; exact w, rfl⟩
  · cases h

theorem ok_ite {c : Ex} {a : Ex} {b : Ex} (hc_ : Ok Φ C k c) (ha_ : Ok Φ C k a) (hb_ : Ok Φ C k b) : Ok Φ C k (.ite c a b) := by
  intro x X e f h
  simp only [chkE] at h
  split at h
  · simp only [Bool.and_eq_true] at h
    have s := hc_ f h.1.1
    have t := ha_ f h.1.2
    have u := hb_ f h.2
    exact ⟨pe_fIte s.pt t.pe u.pe, pt_fIte s.pt t.pt u.pt, fun _ _ _ => Expr.noConfusion, rfl⟩
  · cases h

theorem ok_cmp {op : Cop} {a : Ex} {b : Ex} (ha_ : Ok Φ C k a) (hb_ : Ok Φ C k b) : Ok Φ C k (.cmp op a b) := by
  intro x X e f h
  simp only [chkE] at h
  split at h
  · simp only [Bool.and_eq_true, beq_iff_eq, Bool.not_eq_true'] at h
    obtain ⟨⟨⟨rfl, h1⟩, h2⟩, h0⟩ := h
    have s := toRead (ha_ f h1).pe
    have t := toRead (hb_ f h2).pe
    have o := od_cop (X := X) (by have := f.cond.room.un; omega) op
    refine ⟨PEimp (pe_cmpR o s t (cop_mark op _ h0)) fun σ H Q q => bin_read q, ?_, fun _ _ _ => Expr.noConfusion, rfl⟩
    refine PTimp (pt_cmpR o s t (cop_mark op _ h0)) fun σ H Q ⟨st, sd, G, k', st', rel, e, q⟩ => ?_
    refine bin_read ?_
    obtain ⟨⟨d, st1⟩, e1, e2⟩ := bind_some e
    obtain ⟨⟨r, st2⟩, e3, e4⟩ := bind_some e1
    obtain ⟨d', e5, e6⟩ := map_some e4
    cases e6
    cases d with
    | bool k2 =>
      cases e2
      exact ⟨st, sd, G, r, _, rel, e3, fun v sd' G' H' p rr => ⟨_, (rr.pk p.rel e5).bool, q sd' G' H' p⟩⟩
    | _ => cases e2
  · cases h

theorem ok_chain {o1 : Cop} {o2 : Cop} {a : Ex} {b : Ex} {c : Ex} (ha_ : Ok Φ C k a) (hb_ : Ok Φ C k b) (hc_ : Ok Φ C k c) : Ok Φ C k (.chain o1 o2 a b c) := by
  intro x X e f h
  simp only [chkE] at h
  split at h
  · simp only [Bool.and_eq_true, beq_iff_eq, Bool.not_eq_true'] at h
    obtain ⟨⟨⟨⟨⟨rfl, rfl⟩, h1⟩, h2⟩, h3⟩, h0⟩ := h
    have s := toRead (ha_ f h1).pe
    have t := toRead (hb_ f h2).pe
    have u := toRead (hc_ f h3).pe
    have q1 := od_cop (X := X) (by have := f.cond.room.un; omega) o1
    have q2 := od_cop (X := X) (by have := f.cond.room.un; omega) o2
    refine ⟨PEimp (pe_chain q1 q2 s t u (cop_last o1 o2 _ _ h0)) fun σ H Q q => chain_read q, ?_, fun _ _ _ => Expr.noConfusion, rfl⟩
    refine PTimp (pt_chain q1 q2 s t u (cop_last o1 o2 _ _ h0)) fun σ H Q ⟨st, sd, G, k', st', rel, e, q⟩ => ?_
    refine chain_read ?_
    obtain ⟨⟨d, st1⟩, e1, e2⟩ := bind_some e
    obtain ⟨⟨r, st2⟩, e3, e4⟩ := bind_some e1
    obtain ⟨d', e5, e6⟩ := map_some e4
    cases e6
    cases d with
    | bool k2 =>
      cases e2
      exact ⟨st, sd, G, r, _, rel, e3, fun v sd' G' H' p rr => ⟨_, (rr.pk p.rel e5).bool, q sd' G' H' p⟩⟩
    | _ => cases e2
  · cases h

theorem ok_tup {es : List Ex} (hes_ : ∀ c ∈ es, Ok Φ C k c) : Ok Φ C k (.tup es) := by
  intro x X e f h
  simp only [chkE] at h
  split at h
  · exact .plain (pe_fTup (okVs_of hes_ f h).1) (fun _ => rfl) (fun _ _ _ => Expr.noConfusion) rfl
  · cases h

theorem ok_lst {es : List Ex} (hes_ : ∀ c ∈ es, Ok Φ C k c) : Ok Φ C k (.lst es) := by
  intro x X e f h
  simp only [chkE] at h
  split at h
  · exact .plain (pe_fLst (okVs_of hes_ f h).1) (fun _ => rfl) (fun _ _ _ => Expr.noConfusion) rfl
  · cases h

theorem ok_dsp {t : Bool} {ss : List Bool} {es : List Ex} (hes_ : ∀ c ∈ es, Ok Φ C k c) : Ok Φ C k (.dsp t ss es) := by
  intro x X e f h
  simp only [chkE] at h
  split at h
  · simp only [Bool.and_eq_true] at h
    obtain ⟨rfl, h⟩ := h
    exact .plain (pe_fTup (okSs_of ss hes_ f h)) (fun _ => rfl) (fun _ _ _ => Expr.noConfusion) rfl
  · simp only [Bool.and_eq_true, Bool.not_eq_true'] at h
    obtain ⟨rfl, h⟩ := h
    exact .plain (pe_fLst (okSs_of ss hes_ f h)) (fun _ => rfl) (fun _ _ _ => Expr.noConfusion) rfl
  · cases h

theorem ok_dic0 : Ok Φ C k (.dic0) := by
  intro x X e f h
  simp only [chkE] at h
  split at h
  · exact .plain pe_dic0 (fun _ => rfl) (fun _ _ _ => Expr.noConfusion) rfl
  · cases h

theorem ok_ix {a : Ex} {b : Ex} (ha_ : Ok Φ C k a) (hb_ : Ok Φ C k b) : Ok Φ C k (.ix a b) := by
  intro x X e f h
  simp only [chkE] at h
  split at h
  · rename_i a' b' p
    simp only [Bool.and_eq_true] at h
    have t := hb_ f h.2
    have hp : PlainIx b' := fun o i => by
      have := okE_noSlice b h.2
      cases b' <;> first | rfl | (exact absurd this (by simp [isSlice]))
    exact .plain (PEimp (pe_ix od_ix (toRead (ha_ f h.1).pe) (toRead t.pe) hp) fun σ H Q q => bin_read q) (fun _ => rfl) (fun _ _ _ => Expr.noConfusion) rfl
  · cases h

theorem ok_slL {a : Ex} {lo : Ex} (ha_ : Ok Φ C k a) (hlo_ : Ok Φ C k lo) : Ok Φ C k (.slL a lo) := by
  intro x X e f h
  simp only [chkE] at h
  split at h
  · simp only [Bool.and_eq_true] at h
    exact .plain (pe_fSl (ha_ f h.1).pe (po_so (hlo_ f h.2).pe) po_no) (fun _ => rfl) (fun _ _ _ => Expr.noConfusion) rfl
  · cases h

theorem ok_slH {a : Ex} {hi : Ex} (ha_ : Ok Φ C k a) (hhi_ : Ok Φ C k hi) : Ok Φ C k (.slH a hi) := by
  intro x X e f h
  simp only [chkE] at h
  split at h
  · simp only [Bool.and_eq_true] at h
    exact .plain (pe_fSl (ha_ f h.1).pe po_no (po_so (hhi_ f h.2).pe)) (fun _ => rfl) (fun _ _ _ => Expr.noConfusion) rfl
  · cases h

theorem ok_sl {a : Ex} {lo : Ex} {hi : Ex} (ha_ : Ok Φ C k a) (hlo_ : Ok Φ C k lo) (hhi_ : Ok Φ C k hi) : Ok Φ C k (.sl a lo hi) := by
  intro x X e f h
  simp only [chkE] at h
  split at h
  · simp only [Bool.and_eq_true] at h
    exact .plain (pe_fSl (ha_ f h.1.1).pe (po_so (hlo_ f h.1.2).pe) (po_so (hhi_ f h.2).pe)) (fun _ => rfl) (fun _ _ _ => Expr.noConfusion) rfl
  · cases h

theorem ok_rev {a : Ex} (ha_ : Ok Φ C k a) : Ok Φ C k (.rev a) := by
  intro x X e f h
  simp only [chkE] at h
  split at h
  · simp only [Bool.and_eq_true, decide_eq_true_eq] at h
    obtain ⟨rfl, h⟩ := h
    exact .plain (pe_fRev (ha_ f h).pe) (fun _ => rfl) (fun _ _ _ => Expr.noConfusion) rfl
  · cases h

theorem ok_call {g : Nat} {es : List Ex} (hes_ : ∀ c ∈ es, Ok Φ C k c) : Ok Φ C k (.call g es) := by
  intro x X e f h
  simp only [chkE] at h
  split at h
  · rename_i n pn es' pp
    simp only [Bool.and_eq_true, decide_eq_true_eq] at h
    obtain ⟨⟨⟨h1, h2⟩, h3⟩, h4⟩ := h
    obtain ⟨m, hm, cal⟩ := f.cond.fns _ _ h2
    obtain ⟨q, ns⟩ := okAs_of hes_ f h4
    refine .plain ?_ (fun _ => rfl) (fun _ _ _ => Expr.noConfusion) rfl
    cases es' with
    | nil =>
      cases es with
      | nil =>
        refine PEimp (pe_callG0 cal f.cond.room f.cond.gd (glOf f.sc h1) (okOf h3).1) fun σ H Q q0 => ?_
        have e' := call_read (X := X) (F := Φ g) (ρ := eva Φ C []) hm q0
        obtain ⟨st2, sd2, G2, ds, st3, rel2, e2, q2⟩ := e'
        simp only [eva, Option.some.injEq, Prod.mk.injEq] at e2
        obtain ⟨rfl, rfl⟩ := e2
        exact q2 [] sd2 G2 H (.refl rel2) .nil
      | cons a b => simp [chkEs] at h4
    | cons e1 r1 =>
      exact PEimp (pe_callG cal f.cond.room f.cond.gd (glOf f.sc h1) (okOf h3).1 q (star1 (ns e1 (by simp))) (starsNo fun e he => ns e (by simp [he]))) fun σ H Q q => call_read hm q
  · cases h

theorem ok_callK {g : Nat} {es : List Ex} (hes_ : ∀ c ∈ es, Ok Φ C k c) : Ok Φ C k (.callK g es) := by
  intro x X e f h
  have s : Snd X e (ev Φ C (.call g es)) := ok_call hes_ f (by simpa only [chkE] using h)
  simp only [chkE] at h
  split at h
  · exact .plain (PEimp s.pe fun σ H Q q => keep_read q) (fun _ => rfl) (fun _ _ _ => Expr.noConfusion) rfl
  · cases h
theorem ok_blt {g : Bl} {es : List Ex} (hes_ : ∀ c ∈ es, Ok Φ C k c) : Ok Φ C k (.blt g es) := by
  intro x X e f h
  simp only [chkE] at h
  split at h
  · rename_i n pn es' pp
    simp only [Bool.and_eq_true] at h
    obtain ⟨⟨h1, h2⟩, h3⟩ := h
    obtain ⟨q, ns⟩ := okRs_of hes_ f h3
    refine .plain ?_ (fun _ => rfl) (fun _ _ _ => Expr.noConfusion) rfl
    cases es' with
    | nil => simp at h2
    | cons e1 r1 => exact pe_blt f g h1 q (star1 (ns e1 (by simp))) (starsNo fun e he => ns e (by simp [he]))
  · cases h

theorem ok_gcd {a : Ex} {b : Ex} (ha_ : Ok Φ C k a) (hb_ : Ok Φ C k b) : Ok Φ C k (.gcd a b) := by
  intro x X e f h
  simp only [chkE] at h
  split at h
  · simp only [Bool.and_eq_true] at h
    obtain ⟨⟨⟨h1, h2⟩, h3⟩, h4⟩ := h
    obtain ⟨rfl, g, m⟩ := gcdMg f h2 h1
    have s := ha_ f h3
    have t := hb_ f h4
    have p2 : PA X _ (rdR X.K (fCons (fP (ev Φ C b)) fNil)) := PAimp (pa_cons (toRead t.pe) nil_read (star1 t.ns)) fun σ H Q q => cons_read q
    have p1 : PA X _ (rdR X.K (fCons (fP (ev Φ C a)) (fCons (fP (ev Φ C b)) fNil))) := PAimp (pa_cons (toRead s.pe) p2 (star1 s.ns)) fun σ H Q q => cons_read q
    exact .plain (PEimp (pe_callBfun od_gcd g m p1 (by decide +kernel) (star1 s.ns) (starsNo fun e he => by simp at he; subst he; exact t.ns)) fun σ H Q q => bl_read q) (fun _ => rfl) (fun _ _ _ => Expr.noConfusion) rfl
  · cases h

theorem ok_isi {a : Ex} {t : Ty} (ha_ : Ok Φ C k a) : Ok Φ C k (.isi a t) := by
  intro x X e f h
  simp only [chkE] at h
  split at h
  · simp only [Bool.and_eq_true] at h
    obtain ⟨⟨h1, h2⟩, h3⟩ := h
    obtain ⟨rfl, g, m⟩ := bltMg f h1 (by decide +kernel)
    obtain ⟨rfl, g2, m2⟩ := bltMg f h2 (by cases t <;> decide +kernel)
    have s := ha_ f h3
    exact .plain (pe_fIsi s.pe g m g2 m2 (star1 s.ns)) (fun _ => rfl) (fun _ _ _ => Expr.noConfusion) rfl
  · cases h

theorem ok_lc {own : List Nat} {tg : Tg} {it : EI} {cond : Ex} {elt : Ex} (hit_ : OkI Φ C k it) (hcond_ : Ok Φ C k cond) (helt_ : Ok Φ C k elt) : Ok Φ C k (.lc own tg it cond elt) := by
  intro x X e f h
  simp only [chkE] at h
  split at h
  · rename_i elt' tg' iter ifs scope pp
    simp only [Bool.and_eq_true] at h
    obtain ⟨⟨⟨⟨⟨h1, h2⟩, h3⟩, h4⟩, h5⟩, h6⟩ := h
    have hown : (own.map fun i => (x.N.getD i Str.empty, i)).map (·.2) = own := by simp [List.map_map, Function.comp_def]
    have hsl : ∀ i ∈ tg.slots, i ∈ own := fun i hi => by
      have := List.all_eq_true.mp h3 i hi
      simpa using this
    have ok : BlkOk X.N X.env.scope scope (own.map fun i => (x.N.getD i Str.empty, i)) := by
      rw [f.N, f.sc]; exact blkOk_by h1
    have hfold : ∀ v, foldedSetIterable iter X.env v = pure v := fun v => by
      have := okI_noSet it h4
      cases iter <;> first | rfl | (exact absurd this (by simp [isSetD]))
    have tests : ∀ (s : Shared) (H : Hp) (Ca : Addr) (cl : List (Str × Addr)) (fp : List Addr), PTs (X.blk s H scope (compEnvC scope cl Ca X.env) fp) ifs (rdT X.K (fT (ev Φ C cond))) := fun s H Ca cl fp => by
      cases ifs with
      | nil =>
        cases cond with
        | yes =>
          refine ⟨fun pins s σ H Q I q => pts_nil.run pins s σ H Q I ?_⟩
          obtain ⟨st, sd, G, b, st', rel, e, q⟩ := q
          simp only [fT, fP, ev, Option.bind_some, pk, Option.map_some, Option.some.injEq, Prod.mk.injEq] at e
          obtain ⟨rfl, rfl⟩ := e
          exact q sd G H (.refl rel)
        | _ => simp at h5
      | cons c r =>
        cases r with
        | nil => exact pts_one (hcond_ (f.blk s H scope cl Ca fp) h5).pt
        | cons a b => simp at h5
    refine .plain ?_ (fun _ => rfl) (fun _ _ _ => Expr.noConfusion) rfl
    have q := pe_lc (pos := pp) f.cond.calm f.cond.nd (hit_ f h4) ok (g := gOf X.K tg) (fun s H Ca cl fp => (okT tg (f.blk s H scope cl Ca fp) h2).1) tests
      (te := rdV X.K (fV (ev Φ C elt))) (fun s H Ca cl fp => toVal (helt_ (f.blk s H scope cl Ca fp) h6).pe) hfold
    rw [hown] at q
    exact PEimp q fun σ H Q q => lc_read hsl q
  · cases h

theorem ok_yes : Ok Φ C k (.yes) := by
  intro x X e f h
  simp [chkE] at h
theorem ok_sfld {i : Nat} {g : SF} : Ok Φ C k (.sfld i g) := by
  intro x X e f h
  simp only [chkE] at h
  split at h
  · simp only [Bool.and_eq_true, decide_eq_true_eq] at h
    obtain ⟨h1, rfl⟩ := h
    refine .plain (PEimp (pe_dget (units1 f.cond.room) (varOf f h1) pe_str (fun _ _ => rfl)) fun σ H Q ⟨st, sd, G, r, st', rel, e, q⟩ => ?_) (fun _ => rfl) (fun _ _ _ => Expr.noConfusion) rfl
    obtain ⟨s, e1, e2⟩ := map_some e
    cases e2
    obtain ⟨e3, e4⟩ := srcAt_eq e1
    obtain ⟨k1, _⟩ := rel.sl i _ e3
    obtain ⟨k2, _⟩ := rel.src s e4
    exact ⟨_, k1, _, _, rfl, src_get k2 g, q _ sd G H (.refl rel) (.int _)⟩
  · cases h
theorem ok_slen {i : Nat} : Ok Φ C k (.slen i) := by
  intro x X e f h
  simp only [chkE] at h
  split at h
  · simp only [Bool.and_eq_true, decide_eq_true_eq] at h
    obtain ⟨⟨h0, h1⟩, rfl⟩ := h
    obtain ⟨rfl, g, m⟩ := bltMg f h0 (by decide +kernel)
    refine .plain (PEimp (pe_callB call_len g m (by decide +kernel) (pa_cons (pe_dget (units1 f.cond.room) (varOf f h1) pe_str (fun _ _ => rfl)) pa_nil)) fun σ H Q ⟨st, sd, G, r, st', rel, e, q⟩ => ?_) (fun _ => rfl) (fun _ _ _ => Expr.noConfusion) rfl
    obtain ⟨s, e1, e2⟩ := map_some e
    cases e2
    obtain ⟨e3, e4⟩ := srcAt_eq e1
    obtain ⟨k1, _⟩ := rel.sl i _ e3
    obtain ⟨k2, _⟩ := rel.src s e4
    exact ⟨_, k1, _, _, rfl, src_cells k2, _, _, rfl, .inl ⟨_, SqL.of k2.2, by rw [List.length_map]⟩, q _ sd G H (.refl rel) (.int _)⟩
  · cases h
theorem ok_clen {i : Nat} : Ok Φ C k (.clen i) := by
  intro x X e f h
  simp only [chkE] at h
  split at h
  · simp only [Bool.and_eq_true] at h
    obtain ⟨h0, h1⟩ := h
    obtain ⟨rfl, g, m⟩ := bltMg f h0 (by decide +kernel)
    refine .plain (PEimp (pe_callB call_len g m (by decide +kernel) (pa_cons (varOf f h1) pa_nil)) fun σ H Q ⟨st, sd, G, r, st', rel, e, q⟩ => ?_) (fun _ => rfl) (fun _ _ _ => Expr.noConfusion) rfl
    obtain ⟨s, e1, e2⟩ := map_some e
    cases e2
    obtain ⟨e3, e4⟩ := celAt_eq e1
    obtain ⟨k1, _⟩ := rel.sl i _ e3
    obtain ⟨k2, _⟩ := rel.src s e4
    exact ⟨_, k1, _, _, rfl, .inl ⟨_, SqL.of k2.2, by rw [List.length_map]⟩, q _ sd G H (.refl rel) (.int _)⟩
  · cases h
theorem oi_scr {i : Nat} : OkI Φ C k (.scr i) := by
  intro x X tg e f h
  simp only [chkI] at h
  split at h
  · refine PIimp (pi_list (varOf f h)) fun σ H R ⟨st, sd, G, ds, st', rel, e, q⟩ => ?_
    obtain ⟨ns, e1, e2⟩ := map_some e
    cases e2
    obtain ⟨a, k1, k2⟩ := rel.sl i _ (scrAt_eq e1)
    refine ⟨_, k1, a, rfl, ⟨_, rel.sub.seq k2⟩, q _ sd G H (.refl rel) ?_⟩
    have l : EnL X.K G (ns.map V.int) (ns.map PyData.int) := by
      clear e e1 k2 q
      induction ns with
      | nil => exact .nil
      | cons n r ih => exact .cons (.int n) ih
    exact walkD_seq k2 l
  · cases h
theorem oi_seq {a : Ex} (ha_ : Ok Φ C k a) : OkI Φ C k (.seq a) := by
  intro x X tg e f h
  simp only [chkI] at h
  exact pi_fSeq (ha_ f h).pe

theorem oi_rng {es : List Ex} (hes_ : ∀ c ∈ es, Ok Φ C k c) : OkI Φ C k (.rng es) := by
  intro x X tg e f h
  simp only [chkI] at h
  split at h
  · rename_i n pn es' pp
    simp only [Bool.and_eq_true] at h
    obtain ⟨⟨h1, h2⟩, h3⟩ := h
    obtain ⟨rfl, g, m⟩ := bltMg f h1 (by decide +kernel)
    obtain ⟨q, ns⟩ := okRs_of hes_ f h3
    have hl := fun (st : Stt) (ds : List D) (st' : Stt) (e : evr Φ C es st = some (ds, st')) => evr_len Φ C es st ds st' e
    have hlen : ∀ {cs : List Ex} {es : List Expr}, chkEs x cs es = true → cs.length = es.length := by
      intro cs
      induction cs with
      | nil => intro es h; simp only [chkEs, List.isEmpty_iff] at h; subst h; rfl
      | cons c cs ih =>
        intro es h
        simp only [chkEs] at h
        split at h
        · simp only [Bool.and_eq_true] at h
          simp [ih h.2]
        · cases h
    have hl2 := hlen h3
    match es', h2, h3, q, ns, hl2 with
    | [a], _, _, q, ns, hl2 => exact rng_one g m q (star1 (ns a (by simp))) fun st ds st' e => by rw [hl st ds st' e, hl2]; rfl
    | [a, b], _, _, q, ns, hl2 =>
      have sb := ns b (by simp)
      have s2 : starEach [b] X.env = [(false, eval b X.env)] := star1 sb
      exact rng_two g m q (by rw [star1 (ns a (by simp)), s2]) s2 fun st ds st' e => by rw [hl st ds st' e, hl2]; rfl
    | [a, b, c], _, _, q, ns, hl2 => exact rng_three g m q (star1 (ns a (by simp))) (starsNo fun e he => ns e (by simp at he ⊢; exact .inr he)) fun st ds st' e => by rw [hl st ds st' e, hl2]; rfl
    | a :: b :: c :: d :: r, _, _, q, ns, hl2 => exact rng_more q fun st ds st' e => by rw [hl st ds st' e, hl2]; simp
  · cases h

theorem oi_enum {a : Ex} (ha_ : Ok Φ C k a) : OkI Φ C k (.enum a) := by
  intro x X tg e f h
  simp only [chkI] at h
  split at h
  · simp only [Bool.and_eq_true] at h
    obtain ⟨rfl, g, m⟩ := bltMg f h.1 (by decide +kernel)
    have s := ha_ f h.2
    exact pi_fEnum g m s.pe (star1 s.ns)
  · cases h

theorem oi_zip {a : Ex} {b : Ex} (ha_ : Ok Φ C k a) (hb_ : Ok Φ C k b) : OkI Φ C k (.zip a b) := by
  intro x X tg e f h
  simp only [chkI] at h
  split at h
  · simp only [Bool.and_eq_true] at h
    obtain ⟨rfl, g, m⟩ := bltMg f h.1.1 (by decide +kernel)
    have s := ha_ f h.1.2
    have t := hb_ f h.2
    exact pi_fZip g m s.pe t.pe (star1 s.ns) (star1 t.ns)
  · cases h
theorem okAll : ∀ n : Nat, (∀ c : Ex, sizeOf c < n → Ok Φ C k c) ∧ (∀ c : EI, sizeOf c < n → OkI Φ C k c) := by
  intro n
  induction n with
  | zero => exact ⟨fun c h => absurd h (Nat.not_lt_zero _), fun c h => absurd h (Nat.not_lt_zero _)⟩
  | succ n ih =>
    obtain ⟨i1, i2⟩ := ih
    have il : ∀ (es : List Ex), sizeOf es < n → ∀ c ∈ es, Ok Φ C k c := fun es h c hc => i1 c (Nat.lt_trans (List.sizeOf_lt_of_mem hc) h)
    refine ⟨fun c h => ?_, fun c h => ?_⟩
    · cases c with
      | var i => exact ok_var
      | non  => exact ok_non
      | bl b => exact ok_bl
      | int i => exact ok_int
      | str s => exact ok_str
      | cst j => exact ok_cst
      | bin op a b => exact ok_bin (i1 a (by simp at h; omega)) (i1 b (by simp at h; omega))
      | neg a => exact ok_neg (i1 a (by simp at h; omega))
      | not a => exact ok_not (i1 a (by simp at h; omega))
      | and a b => exact ok_and (i1 a (by simp at h; omega)) (i1 b (by simp at h; omega))
      | or a b => exact ok_or (i1 a (by simp at h; omega)) (i1 b (by simp at h; omega))
      | ite c a b => exact ok_ite (i1 c (by simp at h; omega)) (i1 a (by simp at h; omega)) (i1 b (by simp at h; omega))
      | cmp op a b => exact ok_cmp (i1 a (by simp at h; omega)) (i1 b (by simp at h; omega))
      | chain o1 o2 a b c => exact ok_chain (i1 a (by simp at h; omega)) (i1 b (by simp at h; omega)) (i1 c (by simp at h; omega))
      | tup es => exact ok_tup (il es (by simp at h; omega))
      | lst es => exact ok_lst (il es (by simp at h; omega))
      | dic0  => exact ok_dic0
      | dsp t ss es => exact ok_dsp (il es (by simp at h; omega))
      | ix a b => exact ok_ix (i1 a (by simp at h; omega)) (i1 b (by simp at h; omega))
      | slL a lo => exact ok_slL (i1 a (by simp at h; omega)) (i1 lo (by simp at h; omega))
      | slH a hi => exact ok_slH (i1 a (by simp at h; omega)) (i1 hi (by simp at h; omega))
      | sl a lo hi => exact ok_sl (i1 a (by simp at h; omega)) (i1 lo (by simp at h; omega)) (i1 hi (by simp at h; omega))
      | rev a => exact ok_rev (i1 a (by simp at h; omega))
      | call g es => exact ok_call (il es (by simp at h; omega))
      | callK g es => exact ok_callK (il es (by simp at h; omega))
      | blt g es => exact ok_blt (il es (by simp at h; omega))
      | gcd a b => exact ok_gcd (i1 a (by simp at h; omega)) (i1 b (by simp at h; omega))
      | isi a t => exact ok_isi (i1 a (by simp at h; omega))
      | lc own tg it cond elt => exact ok_lc (i2 it (by simp at h; omega)) (i1 cond (by simp at h; omega)) (i1 elt (by simp at h; omega))
      | yes  => exact ok_yes
      | sfld i g => exact ok_sfld
      | slen i => exact ok_slen
      | clen i => exact ok_clen
    · cases c with
      | seq a => exact oi_seq (i1 a (by simp at h; omega))
      | rng es => exact oi_rng (il es (by simp at h; omega))
      | enum a => exact oi_enum (i1 a (by simp at h; omega))
      | zip a b => exact oi_zip (i1 a (by simp at h; omega)) (i1 b (by simp at h; omega))
      | scr i => exact oi_scr
theorem okE (c : Ex) : Ok Φ C k c := (okAll (sizeOf c + 1)).1 c (Nat.lt_succ_self _)
theorem okI (c : EI) : OkI Φ C k c := (okAll (sizeOf c + 1)).2 c (Nat.lt_succ_self _)
theorem okVs (cs : List Ex) {x : Ctx} {X : Cx} {es : List Expr} (f : Fits X k x Φ C) (h : chkEs x cs es = true) : PA X es (rdL X.K (evs Φ C cs)) ∧ ∀ e ∈ es, isStar e = false := okVs_of (fun c _ => okE c) f h
end
end DE

set_option Elab.async false
set_option linter.all false
set_option maxRecDepth 100000
set_option maxHeartbeats 4000000
set_option autoImplicit false
/-! Statements: meaning, text, the frame of a def. -/
namespace DE
open PySem PySem.Spec PyProof.Rows L2

inductive Stm where
  | asg (i : Nat) (e : Ex) | asgT (tg : Tg) (e : Ex) | par (is : List Nat) (es : List Ex)
  | setI (i : Nat) (ix e : Ex) | app (i : Nat) (e : Ex) | ext (i : Nat) (e : Ex) | pop (i : Nat)
  | ret (e : Ex) | retN | ifS (c : Ex) (a b : List Stm) | whl (c : Ex) (b : List Stm) | forS (tg : Tg) (it : EI) (b : List Stm)
  | brk | cont | pass
  | sset (i : Nat) (f : SF) (e : Ex) | spop (i : Nat) | cpop (i j : Nat) | scel (j i : Nat) | rsrc (c l m t : Ex)
inductive Out where
  | nx | rt (a : A) | bk | ct

/-! ### meaning -/
def setS (st : Stt) (i : Nat) (x : SV) : Stt := { st with γ := st.γ.set i x }
/-- a result that is kept: a list of its own stays its own -/
def fK (φ : Ph) : Stt → Option (R × Stt) := fun st => (φ st).bind fun p => match p.1 with
  | .bor i => (toV (.bor i) p.2).map fun q => (.val q.1, q.2)
  | .scr _ => none
  | r => some (r, p.2)
def fKs : List Ph → Stt → Option (List R × Stt)
  | [], st => some ([], st)
  | φ :: φs, st => (fK φ st).bind fun p => (fKs φs p.2).map fun q => (p.1 :: q.1, q.2)
def svOf : R → SV
  | .val d => .val d
  | .new ds => .own ds
  | .src => .src
  | .bor _ => .un
  | .scr _ => .un
def asgL : List Nat → List R → Stt → Option Stt
  | [], [], st => some st
  | i :: is, r :: rs, st => asgL is rs (setS st i (svOf r))
  | _, _, _ => none
abbrev Pst := Stt → Option (Out × Stt)
def gNext (o : Option Stt) : Option (Out × Stt) := o.map fun st => (.nx, st)
def ownAt (st : Stt) (i : Nat) : Option (List D) := match st.γ[i]? with
  | some (.own ds) => some ds
  | _ => none
def gSeq (φ ψ : Pst) : Pst := fun st => (φ st).bind fun p => match p.1 with
  | .nx => ψ p.2
  | o => some (o, p.2)
def gPar (is : List Nat) (φ : Stt → Option (List R × Stt)) : Pst := fun st => (φ st).bind fun p => gNext (asgL is p.1 p.2)
def gAsgT (tg : Tg) (φ : Stt → Option (D × Stt)) : Pst := fun st => (φ st).bind fun p => gNext ((bindT tg p.1 p.2.γ).map fun γ => ⟨γ, p.2.S⟩)
def gSetI (i : Nat) (φi : Stt → Option (Int × Stt)) (φ : Stt → Option (D × Stt)) : Pst := fun st => (φ st).bind fun p => (ownAt p.2 i).bind fun _ => (φi p.2).bind fun q => (ownAt q.2 i).bind fun ds => (ixN ds.length q.1).map fun j => (.nx, setS q.2 i (.own (ds.set j p.1)))
def gApp (i : Nat) (φ : Stt → Option (D × Stt)) : Pst := fun st => (ownAt st i).bind fun _ => (φ st).bind fun p => (ownAt p.2 i).bind fun ds => if ds.length < most then some (.nx, setS p.2 i (.own (ds ++ [p.1]))) else none
def listOf : D → Option (List D)
  | .list xs => some xs
  | _ => none
def gExt (i : Nat) (φ : Stt → Option (D × Stt)) : Pst := fun st => (ownAt st i).bind fun _ => (φ st).bind fun p => (ownAt p.2 i).bind fun ds => (listOf p.1).bind fun es => if ds.length + es.length ≤ most then some (.nx, setS p.2 i (.own (ds ++ es))) else none
def gPop (i : Nat) : Pst := fun st => (ownAt st i).bind fun ds => if ds = [] then none else some (.nx, setS st i (.own ds.dropLast))
def gRet (φ : Stt → Option (A × Stt)) : Pst := fun st => (φ st).map fun p => (.rt p.1, p.2)
def gIf (φ : Stt → Option (Bool × Stt)) (ψ χ : Pst) : Pst := fun st => (φ st).bind fun p => if p.1 = true then ψ p.2 else χ p.2
def whileF (φ : Stt → Option (Bool × Stt)) (ψ : Pst) : Nat → Pst
  | 0, _ => none
  | n + 1, st => (φ st).bind fun p => if p.1 = true then (ψ p.2).bind fun q => match q.1 with
      | .nx => whileF φ ψ n q.2
      | .ct => whileF φ ψ n q.2
      | .bk => some (.nx, q.2)
      | .rt a => some (.rt a, q.2)
    else some (.nx, p.2)
def forF (tg : Tg) (ψ : Pst) : List D → Pst
  | [], st => some (.nx, st)
  | d :: ds, st => (bindT tg d st.γ).bind fun γ => (ψ ⟨γ, st.S⟩).bind fun q => match q.1 with
      | .nx => forF tg ψ ds q.2
      | .ct => forF tg ψ ds q.2
      | .bk => some (.nx, q.2)
      | .rt a => some (.rt a, q.2)
def gFor (tg : Tg) (φ : PhL) (ψ : Pst) : Pst := fun st => (φ st).bind fun p => forF tg ψ p.1 p.2
def popS (s : Src) : Option Src := if s.cells = [] then none else some { s with left := s.cells.getLastD 0, cells := s.cells.dropLast }
def gSset (i : Nat) (f : SF) (φ : Stt → Option (Int × Stt)) : Pst := fun st => (φ st).bind fun p => (srcAt p.2 i).map fun s => (.nx, { p.2 with S := some (f.put s p.1) })
def gSpop (i : Nat) : Pst := fun st => (srcAt st i).bind fun s => (popS s).map fun s' => (.nx, { st with S := some s' })
def gCpop (i j : Nat) : Pst := fun st => (srcAt st i).bind fun _ => (celAt st j).bind fun s => (popS s).map fun s' => (.nx, { st with S := some s' })
def gScel (j i : Nat) : Pst := fun st => (srcAt st i).map fun _ => (.nx, setS st j .cel)
def gRsrc (c : Stt → Option (R × Stt)) (l m t : Stt → Option (Int × Stt)) : Pst := fun st => (c st).bind fun p => (l p.2).bind fun q => (m q.2).bind fun r => (t r.2).bind fun u => match u.2.S, p.1 with
  | none, .new ds => (intsOf ds).map fun cs => (.rt .src, { u.2 with S := some ⟨cs, q.1, r.1, u.1⟩ })
  | _, _ => none
section
variable (Φ : Nat → Fn) (C : Nat → D) (n : Nat)
mutual
def exS : Stm → Pst
  | .asg i e => gPar [i] (fKs [ev Φ C e])
  | .asgT tg e => gAsgT tg (fV (ev Φ C e))
  | .par is es => gPar is (fKs (es.map (ev Φ C)))
  | .setI i ix e => gSetI i (fInt (ev Φ C ix)) (fV (ev Φ C e))
  | .app i e => gApp i (fV (ev Φ C e))
  | .ext i e => gExt i (fP (ev Φ C e))
  | .pop i => gPop i
  | .ret e => gRet (fA (ev Φ C e))
  | .retN => fun st => some (.rt (.val .none), st)
  | .ifS c a b => gIf (fT (ev Φ C c)) (exB a) (exB b)
  | .whl c b => whileF (fT (ev Φ C c)) (exB b) n
  | .forS tg it b => gFor tg (evi Φ C it) (exB b)
  | .brk => fun st => some (.bk, st)
  | .cont => fun st => some (.ct, st)
  | .pass => fun st => some (.nx, st)
  | .sset i f e => gSset i f (fInt (ev Φ C e))
  | .spop i => gSpop i
  | .cpop i j => gCpop i j
  | .scel j i => gScel j i
  | .rsrc c l m t => gRsrc (fK (ev Φ C c)) (fInt (ev Φ C l)) (fInt (ev Φ C m)) (fInt (ev Φ C t))
def exB : List Stm → Pst
  | [] => fun st => some (.nx, st)
  | s :: r => gSeq (exS s) (exB r)
end
/-- a def of np arguments and ns slots -/
def slA : A → SV
  | .val d => .val d
  | .src => .src
  | .scr ns => .scr ns
def evFn (np ns : Nat) (b : List Stm) : Fn := fun args S => if args.length = np then (exB Φ C n b ⟨args.map slA ++ List.replicate (ns - np) .un, S⟩).bind fun p => match p.1 with
    | .rt a => some (a, p.2.S)
    | .nx => some (.val .none, p.2.S)
    | _ => none
  else none
end

/-! ### the text -/
def varS (x : Ctx) (i : Nat) (n : Str) : Bool := decide (x.N[i]? = some n) && locC x.sc n && okN n
def loc1 (x : Ctx) (n : Str) : Bool := decide (x.sc.names.lookup n = some .local)
/-- what the compiler makes of ts = e in a def: the names of exchanged stores, if any -/
def swNames (x : Ctx) (line : Nat) (ts : List Expr) : List Str := ts.filterMap fun
  | .Name id pos => if x.sc.names.lookup id == some .local && pos.line == line then some id else none
  | _ => none
def swR (x : Ctx) (ts : List Expr) : Expr → Option (Option (List Str))
  | .Tuple vs _ _ =>
    if !(ts.length == 2 || ts.length == 3) || vs.length != ts.length then some none
    else if vs.any isStar then some none
    else if (swNames x ((ts.head?.map (·.pos.line)).getD 0) ts).length != ts.length || (swNames x ((ts.head?.map (·.pos.line)).getD 0) ts).eraseDups.length != (swNames x ((ts.head?.map (·.pos.line)).getD 0) ts).length then some none
    else if vs.all (foldedForSure 8) then some none
    else if vs.all (constantsAlone 8) then none
    else some (some (swNames x ((ts.head?.map (·.pos.line)).getD 0) ts))
  | _ => some none
def swYes (x : Ctx) : List Nat → List Expr → Expr → Bool
  | [i, j], [.Name a p, .Name b q], e => decide (x.N[i]? = some a) && decide (x.N[j]? = some b) && decide (i ≠ j) && loc1 x a && loc1 x b && decide (swR x [.Name a p, .Name b q] e = some (some [a, b]))
  | [i, j, l], [.Name a p, .Name b q, .Name c r], e => decide (x.N[i]? = some a) && decide (x.N[j]? = some b) && decide (x.N[l]? = some c) && decide (i ≠ j) && decide (i ≠ l) && decide (j ≠ l) && loc1 x a && loc1 x b && loc1 x c && decide (swR x [.Name a p, .Name b q, .Name c r] e = some (some [a, b, c]))
  | _, _, _ => false
mutual
def chkS (x : Ctx) : Stm → Stmt → Bool
  | .asg i e, s => match s with
    | .Assign [.Name n _] e' _ => varS x i n && chkE x e e'
    | _ => false
  | .asgT tg e, s => match s with
    | .Assign [.Tuple ts kt pt] e' _ => chkT x tg (.Tuple ts kt pt) && chkE x e e' && decide (swR x ts e' = some none)
    | _ => false
  | .par is es, s => match s with
    | .Assign [.Tuple ts _ _] (.Tuple vs kv pv) _ => chkEs x es vs && swYes x is ts (.Tuple vs kv pv)
    | _ => false
  | .setI i ix e, s => match s with
    | .Assign [.Subscript (.Name n _) ix' _] e' _ => varC x i n && chkE x ix ix' && chkE x e e'
    | _ => false
  | .app i e, s => match s with
    | .Expr (.Call (.Attribute (.Name n _) m ap) [e'] [] cp) _ => varC x i n && (m == ("append" : Str)) && (ap.endLine == cp.line) && chkE x e e'
    | _ => false
  | .ext i e, s => match s with
    | .Expr (.Call (.Attribute (.Name n _) m ap) [e'] [] cp) _ => varC x i n && (m == ("extend" : Str)) && (ap.endLine == cp.line) && chkE x e e'
    | _ => false
  | .pop i, s => match s with
    | .Expr (.Call (.Attribute (.Name n _) m ap) [] [] cp) _ => varC x i n && (m == ("pop" : Str)) && (ap.endLine == cp.line)
    | _ => false
  | .ret e, s => match s with | .Return (some e') _ => chkE x e e' | _ => false
  | .retN, s => match s with | .Return none _ => true | _ => false
  | .ifS c a b, s => match s with | .If c' a' b' _ => chkE x c c' && chkB x a a' && chkB x b b' | _ => false
  | .whl c b, s => match s with | .While c' b' [] _ => chkE x c c' && chkB x b b' | _ => false
  | .forS tg it b, s => match s with | .For tg' it' b' [] _ => chkT x tg tg' && chkI x it tg' it' && chkB x b b' | _ => false
  | .brk, s => match s with | .Break _ => true | _ => false
  | .cont, s => match s with | .Continue _ => true | _ => false
  | .pass, s => match s with | .Pass _ => true | _ => false
  | .sset i f e, s => match s with
    | .Assign [.Subscript (.Name n _) (.Constant (.str t) _ _) _] e' _ => varC x i n && decide (t = f.nm) && chkE x e e'
    | _ => false
  | .spop i, s => match s with
    | .Assign [.Subscript (.Name n _) (.Constant (.str t) _ _) _] (.Call (.Attribute (.Subscript (.Name n' _) (.Constant (.str t') _ _) _) m ap) [] [] cp) _ => varC x i n && decide (t = "left") && varC x i n' && decide (t' = "cells") && (m == ("pop" : Str)) && (ap.endLine == cp.line)
    | _ => false
  | .cpop i j, s => match s with
    | .Assign [.Subscript (.Name n _) (.Constant (.str t) _ _) _] (.Call (.Attribute (.Name n' _) m ap) [] [] cp) _ => varC x i n && decide (t = "left") && varC x j n' && (m == ("pop" : Str)) && (ap.endLine == cp.line)
    | _ => false
  | .scel j i, s => match s with
    | .Assign [.Name y _] (.Subscript (.Name n _) (.Constant (.str t) _ _) _) _ => varS x j y && varC x i n && decide (t = "cells")
    | _ => false
  | .rsrc c l m t, s => match s with
    | .Return (some (.Dict [some (.Constant (.str t1) _ _), some (.Constant (.str t2) _ _), some (.Constant (.str t3) _ _), some (.Constant (.str t4) _ _)] [c', l', m', t'] _)) _ =>
      decide (t1 = "cells") && decide (t2 = "left") && decide (t3 = "mixed") && decide (t4 = "turn") && chkE x c c' && chkE x l l' && chkE x m m' && chkE x t t'
    | _ => false
def chkB (x : Ctx) : List Stm → List Stmt → Bool
  | [], ss => ss.isEmpty
  | a :: r, ss => match ss with
    | s :: t => chkS x a s && chkB x r t
    | [] => false
end

/-! ### the frame of a def -/
structure FI (K : PySem.W.Frag) (S0 : Option Src) (sd0 : Addr × Addr) (G0 H0 : Hp) (st : Stt) (sd : Addr × Addr) (G : Hp) (σ : List (Option V)) (H : Hp) : Prop where
  rel : Rel K st sd G σ H
  ext : Same G0 G
  keep : ∀ a o, H0 a = some o → Apart S0 sd0 a → H a = some o
  dom : ∀ a, G0 a = none → G a ≠ none → H0 a = none
  sdk : S0 ≠ none → st.S ≠ none ∧ sd = sd0
  new : S0 = none → st.S ≠ none → H0 sd.1 = none ∧ H0 sd.2 = none
  own : ∀ (i : Nat) (ds : List D) (a : Addr), st.γ[i]? = some (.own ds) → σ[i]? = some (some (.ref a)) → H0 a = none
section
variable {K : PySem.W.Frag} {S0 : Option Src} {sd0 sd sd' : Addr × Addr} {G0 H0 G H G' H' : Hp} {st st' : Stt} {σ σ' : List (Option V)}
theorem FI.apart (f : FI K S0 sd0 G0 H0 st sd G σ H) {a : Addr} {o : HO} (h : H0 a = some o) (ha : Apart S0 sd0 a) : Apart st.S sd a := fun hn => by
  by_cases e : S0 = none
  · obtain ⟨q1, q2⟩ := f.new e hn
    exact ⟨fun z => (by rw [z, q1] at h; cases h), fun z => (by rw [z, q2] at h; cases h)⟩
  · obtain ⟨_, rfl⟩ := f.sdk e
    exact ha e
theorem FI.noneB (f : FI K S0 sd0 G0 H0 st sd G σ H) {a : Addr} (h : H a = none) : H0 a = none := by
  cases e : H0 a with
  | none => rfl
  | some o =>
    exfalso
    by_cases ha : Apart S0 sd0 a
    · rw [f.keep a o e ha] at h; cases h
    · have hs : S0 ≠ none := fun z => ha (fun n => absurd z n)
      obtain ⟨h1, rfl⟩ := f.sdk hs
      cases e3 : st.S with
      | none => exact h1 e3
      | some s =>
        obtain ⟨⟨k1, k2⟩, _⟩ := f.rel.src s e3
        refine ha fun _ => ⟨fun z => ?_, fun z => ?_⟩
        · rw [z, k1] at h; cases h
        · rw [z, k2] at h; cases h
theorem FI.post (f : FI K S0 sd0 G0 H0 st sd G σ H) (p : Post K st sd G σ H st' sd' G' H') : FI K S0 sd0 G0 H0 st' sd' G' σ H' where
  rel := p.rel
  ext := f.ext.trans p.ext
  keep := fun a o h ha => p.keep a o (f.keep a o h ha) (f.apart h ha)
  dom := fun a h h' => by
    by_cases e : G a = none
    · rcases p.dom a e h' with z | ⟨i, ds, z1, z2⟩
      · exact f.noneB z
      · exact f.own i ds a z1 z2
    · exact f.dom a h e
  sdk := fun h => by
    obtain ⟨h1, rfl⟩ := f.sdk h
    exact p.sdk h1
  new := fun h h' => by
    by_cases e : st.S = none
    · obtain ⟨k1, k2⟩ := p.new e h'
      exact ⟨f.noneB k1, f.noneB k2⟩
    · obtain ⟨_, rfl⟩ := p.sdk e
      exact f.new h e
  own := fun i ds a h1 h2 => f.own i ds a (p.owned f.rel h1 h2).1 h2
theorem FI.start {S0 : Option Src} {γ : List SV} (r : Rel K ⟨γ, S0⟩ sd0 G0 σ H0) (no : ∀ (i : Nat) (ds : List D), γ[i]? ≠ some (.own ds)) : FI K S0 sd0 G0 H0 ⟨γ, S0⟩ sd0 G0 σ H0 :=
  ⟨r, Same.refl _, fun _ _ h _ => h, fun a h h' => absurd h h', fun h => ⟨h, rfl⟩, fun h h' => absurd h h', fun i ds a h _ => absurd h (no i ds)⟩
theorem FI.fin (f : FI K S0 sd0 G0 H0 st sd G σ H) : Post K ⟨[], S0⟩ sd0 G0 [] H0 ⟨[], st.S⟩ sd G H :=
  ⟨f.rel.bare, f.ext, f.keep, fun a h h' => .inl (f.dom a h h'), f.sdk, f.new, fun i => .inl rfl⟩
/-- slots are set anew, heap and source as they were -/
theorem FI.slots (f : FI K S0 sd0 G0 H0 st sd G σ H) {γ' : List SV} (r : Rel K ⟨γ', st.S⟩ sd G σ' H) (h : ∀ (i : Nat) (ds : List D) (a : Addr), γ'[i]? = some (.own ds) → σ'[i]? = some (some (.ref a)) → H0 a = none) : FI K S0 sd0 G0 H0 ⟨γ', st.S⟩ sd G σ' H :=
  ⟨r, f.ext, f.keep, f.dom, f.sdk, f.new, h⟩
/-- a slot comes to own a list -/
theorem Rel.setO (r : Rel K st sd G σ H) {a : Addr} {vs : List V} {ds : List D} (i : Nat) (ha : H a = some (.lst vs)) (en : EnL K G vs ds) (hg : G a = none) (ap : Apart st.S sd a) (no : ∀ (j : Nat) (es : List D), st.γ[j]? = some (.own es) → σ[j]? ≠ some (some (.ref a))) :
    Rel K (setS st i (.own ds)) sd G (σ.set i (some (.ref a))) H := by
  refine ⟨r.sub, by simpa [setS] using r.len, fun j x e => ?_, fun j k ds' es b e1 e2 e3 e4 => ?_, r.src⟩
  · have e : (st.γ.set i (.own ds))[j]? = some x := e
    by_cases hj : i = j
    · subst hj
      have hi : i < st.γ.length := by
        have := (List.getElem?_eq_some_iff.mp e).1
        simpa using this
      rw [List.getElem?_set_self hi] at e
      cases e
      exact ⟨a, vs, by rw [List.getElem?_set_self (by rw [← r.len]; exact hi)], ha, hg, en, ap⟩
    · rw [List.getElem?_set_ne hj] at e
      rw [List.getElem?_set_ne hj]
      exact r.sl j x e
  · have e1 : (st.γ.set i (.own ds))[j]? = some (.own ds') := e1
    have e2 : (st.γ.set i (.own ds))[k]? = some (.own es) := e2
    by_cases hj : i = j
    · subst hj
      by_cases hk : i = k
      · exact hk
      · exfalso
        have hi : i < σ.length := by
          have := (List.getElem?_eq_some_iff.mp e3).1
          simpa using this
        rw [List.getElem?_set_self hi] at e3
        rw [List.getElem?_set_ne hk] at e2 e4
        cases e3
        exact no k es e2 e4
    · by_cases hk : i = k
      · subst hk
        exfalso
        have hi : i < σ.length := by
          have := (List.getElem?_eq_some_iff.mp e4).1
          simpa using this
        rw [List.getElem?_set_self hi] at e4
        rw [List.getElem?_set_ne hj] at e1 e3
        cases e4
        exact no j ds' e1 e3
      · rw [List.getElem?_set_ne hj] at e1 e3
        rw [List.getElem?_set_ne hk] at e2 e4
        exact r.dis j k ds' es b e1 e2 e3 e4
theorem Rel.setR (r : Rel K st sd G σ H) (i : Nat) (hs : st.S ≠ none) : Rel K (setS st i .src) sd G (σ.set i (some (.ref sd.1))) H := by
  refine ⟨r.sub, by simpa [setS] using r.len, fun j x e => ?_, fun j k ds es a e1 e2 e3 e4 => ?_, r.src⟩
  · have e : (st.γ.set i .src)[j]? = some x := e
    by_cases hj : i = j
    · subst hj
      have hi : i < st.γ.length := by
        have := (List.getElem?_eq_some_iff.mp e).1
        simpa using this
      rw [List.getElem?_set_self hi] at e
      cases e
      exact ⟨by rw [List.getElem?_set_self (by rw [← r.len]; exact hi)], hs⟩
    · rw [List.getElem?_set_ne hj] at e
      rw [List.getElem?_set_ne hj]
      exact r.sl j x e
  · have nj : ∀ {j : Nat} {ds : List D}, (st.γ.set i .src)[j]? = some (.own ds) → i ≠ j := fun {j ds} e z => by
      subst z
      by_cases hi : i < st.γ.length
      · rw [List.getElem?_set_self hi] at e; cases e
      · rw [List.getElem?_eq_none (by simpa using hi)] at e; cases e
    have h1 := nj e1
    have h2 := nj e2
    have e1 : (st.γ.set i .src)[j]? = some (.own ds) := e1
    have e2 : (st.γ.set i .src)[k]? = some (.own es) := e2
    rw [List.getElem?_set_ne h1] at e1 e3
    rw [List.getElem?_set_ne h2] at e2 e4
    exact r.dis j k ds es a e1 e2 e3 e4
/-- the source is written -/
theorem FI.srcW (f : FI K S0 sd0 G0 H0 st sd G σ H) {s s' : Src} (hs : st.S = some s) (ha : SrcAt H' sd s') (hk : ∀ a, a ≠ sd.1 → a ≠ sd.2 → H' a = H a) : FI K S0 sd0 G0 H0 { st with S := some s' } sd G σ H' := by
  have hn : st.S ≠ none := by rw [hs]; simp
  obtain ⟨_, g1, g2, g3⟩ := f.rel.src s hs
  have kp : ∀ a, Apart st.S sd a → H' a = H a := fun a ap => hk a (ap hn).1 (ap hn).2
  refine ⟨⟨fun a o e => ?_, f.rel.len, fun i x e => ?_, f.rel.dis, fun s2 e => ?_⟩, f.ext, fun a o e ap => ?_, f.dom, fun h => ⟨by simp, (f.sdk h).2⟩, fun h _ => f.new h hn, f.own⟩
  · rw [kp a (f.rel.apart e)]; exact f.rel.sub a o e
  · have q := f.rel.sl i x e
    cases x with
    | un => trivial
    | val d => exact q
    | own ds =>
      obtain ⟨a, vs, h1, h2, h3, h4, h5⟩ := q
      exact ⟨a, vs, h1, by rw [kp a h5]; exact h2, h3, h4, fun _ => h5 hn⟩
    | src => exact ⟨q.1, by simp⟩
    | cel => exact ⟨q.1, by simp⟩
    | scr ns => exact q
  · cases e
    exact ⟨ha, g1, g2, g3⟩
  · rw [kp a (f.apart e ap)]; exact f.keep a o e ap
/-- a new source -/
theorem FI.srcN (f : FI K S0 sd0 G0 H0 st sd G σ H) {p c : Addr} {s' : Src} (hs : st.S = none) (ha : SrcAt H' (p, c) s') (hk : ∀ a, a ≠ p → H' a = H a) (h0 : H0 p = none) (hp : G p = none) (c0 : H0 c = none) (hc : G c = none) (hne : p ≠ c)
    (no : ∀ (i : Nat) (ds : List D), st.γ[i]? = some (.own ds) → σ[i]? ≠ some (some (.ref p)) ∧ σ[i]? ≠ some (some (.ref c))) : FI K S0 sd0 G0 H0 { st with S := some s' } (p, c) G σ H' := by
  have hS0 : S0 = none := by
    cases e : S0 with
    | none => rfl
    | some z => exact absurd hs (f.sdk (by rw [e]; simp)).1
  refine ⟨⟨fun a o e => ?_, f.rel.len, fun i x e => ?_, f.rel.dis, fun s2 e => ?_⟩, f.ext, fun a o e ap => ?_, f.dom, fun h => absurd hS0 h, fun _ _ => ⟨h0, c0⟩, f.own⟩
  · rw [hk a (ne_of_none e hp)]; exact f.rel.sub a o e
  · have q := f.rel.sl i x e
    cases x with
    | un => trivial
    | val d => exact q
    | own ds =>
      obtain ⟨a, vs, h1, h2, h3, h4, h5⟩ := q
      obtain ⟨n1, n2⟩ := no i ds e
      have a1 : a ≠ p := fun z => n1 (z ▸ h1)
      have a2 : a ≠ c := fun z => n2 (z ▸ h1)
      exact ⟨a, vs, h1, by rw [hk a a1]; exact h2, h3, h4, fun _ => ⟨a1, a2⟩⟩
    | src => exact absurd hs q.2
    | cel => exact absurd hs q.2
    | scr ns => exact q
  · cases e
    exact ⟨ha, hp, hc, hne⟩
  · rw [hk a (ne_of_none e h0)]; exact f.keep a o e ap
/-- a list that slot i owns is written -/
theorem FI.write (f : FI K S0 sd0 G0 H0 st sd G σ H) {i : Nat} {a : Addr} {ds ds' : List D} {vs' : List V} (hi : st.γ[i]? = some (.own ds)) (hs : σ[i]? = some (some (.ref a))) (en : EnL K G vs' ds') : FI K S0 sd0 G0 H0 (setS st i (.own ds')) sd G σ (upd H a (.lst vs')) := by
  obtain ⟨b, vs, h1, h2, h3, h4, h5⟩ := f.rel.sl i _ hi
  rw [hs] at h1; cases h1
  have hil : i < st.γ.length := (List.getElem?_eq_some_iff.mp hi).1
  have h0 := f.own i ds a hi hs
  have key : ∀ (j : Nat) (es : List D), (setS st i (.own ds')).γ[j]? = some (.own es) → ∃ fs, st.γ[j]? = some (.own fs) := fun j es e => by
    have e : (st.γ.set i (.own ds'))[j]? = some (.own es) := e
    by_cases hj : i = j
    · subst hj; exact ⟨_, hi⟩
    · rw [List.getElem?_set_ne hj] at e; exact ⟨_, e⟩
  refine ⟨⟨fun b o e => by rw [upd_ne (ne_of_none e h3)]; exact f.rel.sub _ _ e, by simpa [setS] using f.rel.len, fun j x e => ?_, fun j k es fs b e1 e2 e3 e4 => ?_, fun s e => ?_⟩, f.ext, fun b o e ap => ?_, f.dom, f.sdk, f.new, fun j es b e1 e2 => ?_⟩
  · have e : (st.γ.set i (.own ds'))[j]? = some x := e
    by_cases hj : i = j
    · subst hj
      rw [List.getElem?_set_self hil] at e
      cases e
      exact ⟨a, vs', hs, upd_same, h3, en, h5⟩
    · rw [List.getElem?_set_ne hj] at e
      have q := f.rel.sl j x e
      cases x with
      | own es =>
        obtain ⟨b, ws, k1, k2, k3⟩ := q
        refine ⟨b, ws, k1, ?_, k3⟩
        rw [upd_ne]
        · exact k2
        · intro z
          subst z
          exact hj (f.rel.dis i j _ _ b hi e hs k1)
      | _ => exact q
  · obtain ⟨es', e1'⟩ := key j es e1
    obtain ⟨fs', e2'⟩ := key k fs e2
    exact f.rel.dis j k _ _ b e1' e2' e3 e4
  · obtain ⟨⟨k1, k2⟩, k3⟩ := f.rel.src s e
    obtain ⟨a1, a2⟩ := h5 (by rw [show st.S = some s from e]; simp)
    exact ⟨⟨by rw [upd_ne a1.symm]; exact k1, by rw [upd_ne a2.symm]; exact k2⟩, k3⟩
  · rw [upd_ne (ne_of_none e h0)]
    exact f.keep b o e ap
  · obtain ⟨es', e1'⟩ := key j es e1
    exact f.own j _ b e1' e2
end
end DE

set_option Elab.async false
set_option linter.all false
set_option maxRecDepth 100000
set_option maxHeartbeats 4000000
set_option autoImplicit false
/-! The soundness of the language's statements: the combinators. -/
namespace DE
open PySem PySem.Spec PyProof.Rows L2

def endsD (K : PySem.W.Frag) (S0 : Option Src) (sd0 : Addr × Addr) (G0 H0 G : Hp) (st' : Stt) (D : Ends) : Out → Prop
  | .nx => ∀ σ' sd' G' H', FI K S0 sd0 G0 H0 st' sd' G' σ' H' → Same G G' → D.nx σ' H'
  | .bk => ∀ σ' sd' G' H', FI K S0 sd0 G0 H0 st' sd' G' σ' H' → Same G G' → D.bk σ' H'
  | .ct => ∀ σ' sd' G' H', FI K S0 sd0 G0 H0 st' sd' G' σ' H' → Same G G' → D.ct σ' H'
  | .rt a => ∀ v σ' sd' G' H', FI K S0 sd0 G0 H0 st' sd' G' σ' H' → Same G G' → ARel K st'.S sd' G' a v → D.rt v H'
def rdS (K : PySem.W.Frag) (φ : Pst) : TS := fun D σ H => ∃ S0 sd0 G0 H0 st sd G o st', FI K S0 sd0 G0 H0 st sd G σ H ∧ φ st = some (o, st') ∧ endsD K S0 sd0 G0 H0 G st' D o
theorem PSimp {X : Cx} {s : Stmt} {t t' : TS} (h : PS X s t) (i : ∀ D σ H, t' D σ H → t D σ H) : PS X s t' := ⟨fun pins sh σ H D I q => h.run pins sh σ H D I (i _ _ _ q)⟩
theorem PSsimp {X : Cx} {s : List Stmt} {t t' : TS} (h : PSs X s t) (i : ∀ D σ H, t' D σ H → t D σ H) : PSs X s t' := ⟨fun pins sh σ H D I q => h.run pins sh σ H D I (i _ _ _ q)⟩

section
variable {K : PySem.W.Frag} {S0 : Option Src} {sd0 sd sd' : Addr × Addr} {G0 H0 G H G' H' G1 : Hp} {st st' : Stt} {σ σ' : List (Option V)} {Z : Ends} {o : Out}
theorem endsD.mono (h : endsD K S0 sd0 G0 H0 G st' Z o) (s : Same G G1) : endsD K S0 sd0 G0 H0 G1 st' Z o := by
  cases o with
  | nx => exact fun σ' sd' G' H' f s' => h σ' sd' G' H' f (s.trans s')
  | bk => exact fun σ' sd' G' H' f s' => h σ' sd' G' H' f (s.trans s')
  | ct => exact fun σ' sd' G' H' f s' => h σ' sd' G' H' f (s.trans s')
  | rt a => exact fun v σ' sd' G' H' f s' => h v σ' sd' G' H' f (s.trans s')

/-! ### results that are kept -/
def notBor : R → Prop
  | .bor _ => False
  | .scr _ => False
  | _ => True
def KL (K : PySem.W.Frag) (H : Hp) (st' : Stt) (sd' : Addr × Addr) (G' : Hp) (σ : List (Option V)) (H' : Hp) : List R → List V → Prop
  | [], [] => True
  | r :: rs, v :: vs => RRel K H st' sd' G' σ H' r v ∧ notBor r ∧ KL K H st' sd' G' σ H' rs vs ∧ ∀ ds a, r = .new ds → v = .ref a → ∀ (k : Nat) es, rs[k]? = some (.new es) → vs[k]? ≠ some (.ref a)
  | _, _ => False
theorem KL.len : ∀ {rs : List R} {vs : List V}, KL K H st' sd' G' σ H' rs vs → rs.length = vs.length
  | [], [], _ => rfl
  | r :: rs, v :: vs, h => by
    obtain ⟨_, _, h, _⟩ := h
    simp [KL.len h]
  | [], _ :: _, h => h.elim
  | _ :: _, [], h => h.elim
theorem KL.get : ∀ {rs : List R} {vs : List V}, KL K H st' sd' G' σ H' rs vs → ∀ (k : Nat) r v, rs[k]? = some r → vs[k]? = some v → RRel K H st' sd' G' σ H' r v
  | [], [], _, k, r, v, h1, _ => by simp at h1
  | r :: rs, v :: vs, h, 0, r', v', h1, h2 => by
    obtain ⟨h, _⟩ := h
    simp at h1 h2; subst h1; subst h2; exact h
  | r :: rs, v :: vs, h, k + 1, r', v', h1, h2 => by
    obtain ⟨_, _, h, _⟩ := h
    exact KL.get h k r' v' (by simpa using h1) (by simpa using h2)
  | [], _ :: _, h, _, _, _, _, _ => h.elim
  | _ :: _, [], h, _, _, _, _, _ => h.elim
theorem KL.early {st1 : Stt} {sd1 : Addr × Addr} {G1 H1 : Hp} (p : Post K st sd G σ H st1 sd1 G1 H1) : ∀ {rs : List R} {vs : List V}, KL K H1 st' sd' G' σ H' rs vs → KL K H st' sd' G' σ H' rs vs
  | [], [], _ => trivial
  | r :: rs, v :: vs, h => by
    obtain ⟨h1, h2, h3, h4⟩ := h
    exact ⟨RRel.early h1 p, h2, KL.early p h3, h4⟩
  | [], _ :: _, h => h.elim
  | _ :: _, [], h => h.elim
def rdK (K : PySem.W.Frag) (ω : Stt → Option (R × Stt)) : TE := fun σ H Q => ∃ st sd G r st', Rel K st sd G σ H ∧ ω st = some (r, st') ∧
  ∀ v sd' G' H', Post K st sd G σ H st' sd' G' H' → RRel K H st' sd' G' σ H' r v → notBor r → Q v H'
def rdKs (K : PySem.W.Frag) (ω : Stt → Option (List R × Stt)) : TA := fun σ H Q => ∃ st sd G rs st', Rel K st sd G σ H ∧ ω st = some (rs, st') ∧
  ∀ vs sd' G' H', Post K st sd G σ H st' sd' G' H' → KL K H st' sd' G' σ H' rs vs → Q vs H'
theorem toKept {X : Cx} {e : Expr} {φ : Ph} (h : PE X e (rd X.K φ)) : PE X e (rdK X.K (fK φ)) := PEimp h fun σ H Q ⟨st, sd, G, r, st', rel, e, q⟩ => by
  obtain ⟨⟨r1, st1⟩, e1, e2⟩ := bind_some e
  refine ⟨st, sd, G, r1, st1, rel, e1, fun v sd' G' H' p rr => ?_⟩
  cases r1 with
  | bor i =>
    obtain ⟨⟨d, st2⟩, e3, e4⟩ := map_some e2
    cases e4
    obtain ⟨G2, p2, en⟩ := p.toV rel rr e3
    exact q v sd' G2 H' p2 en trivial
  | val d => cases e2; exact q v sd' G' H' p rr trivial
  | new d => cases e2; exact q v sd' G' H' p rr trivial
  | src => cases e2; exact q v sd' G' H' p rr trivial
  | scr => cases e2
theorem kept_nil {X : Cx} : PA X [] (rdKs X.K (fKs [])) := PAimp pa_nil fun σ H Q ⟨st, sd, G, ds, st', rel, e, q⟩ => by
  cases e; exact q [] sd G H (.refl rel) trivial
theorem kept_cons {X : Cx} {φ : Ph} {φs : List Ph} {σ : List (Option V)} {H : Hp} {Q : List V → Hp → Prop} (h : rdKs X.K (fKs (φ :: φs)) σ H Q) : tCons (rdK X.K (fK φ)) (rdKs X.K (fKs φs)) σ H Q := by
  obtain ⟨st, sd, G, rs, st', rel, e, q⟩ := h
  obtain ⟨⟨r, st1⟩, e1, e2⟩ := bind_some e
  obtain ⟨⟨rs2, st2⟩, e3, e4⟩ := map_some e2
  cases e4
  refine ⟨st, sd, G, r, st1, rel, e1, fun v sd1 G1 H1 p1 k1 nb => ⟨st1, sd1, G1, rs2, st2, p1.rel, e3, fun vs sd2 G2 H2 p2 k2 => q (v :: vs) sd2 G2 H2 (p1.trans p2) ⟨k1.later rel p1 p2, nb, k2.early p1, ?_⟩⟩⟩
  intro ds a er ev k es z1 z2
  subst er ev
  obtain ⟨b, ws, hb, h1, h2, h3, h4, h5⟩ := k1
  cases hb
  obtain ⟨c, us, hc, g1, g2, g3, g4, g5⟩ := k2.get k _ _ z1 z2
  cases hc
  rw [h1] at g4; cases g4

/-! ### stores -/
def Rdy (K : PySem.W.Frag) (H0 : Hp) (st : Stt) (sd : Addr × Addr) (G : Hp) (σ : List (Option V)) (H : Hp) : R → V → Prop
  | .val d, v => En K G v d
  | .new ds, v => ∃ a vs, v = .ref a ∧ H a = some (.lst vs) ∧ EnL K G vs ds ∧ G a = none ∧ H0 a = none ∧ Apart st.S sd a ∧ ∀ (j : Nat) (es : List D), st.γ[j]? = some (.own es) → σ[j]? ≠ some (some (.ref a))
  | .src, v => v = .ref sd.1 ∧ st.S ≠ none
  | .bor _, _ => False
  | .scr _, _ => False
def RdyL (K : PySem.W.Frag) (H0 : Hp) (st : Stt) (sd : Addr × Addr) (G : Hp) (σ : List (Option V)) (H : Hp) : List R → List V → Prop
  | [], [] => True
  | r :: rs, v :: vs => Rdy K H0 st sd G σ H r v ∧ RdyL K H0 st sd G σ H rs vs ∧ ∀ ds a, r = .new ds → v = .ref a → ∀ (k : Nat) es, rs[k]? = some (.new es) → vs[k]? ≠ some (.ref a)
  | _, _ => False
theorem KL.ready (f : FI K S0 sd0 G0 H0 st sd G σ H) (p : Post K st sd G σ H st' sd' G' H') : ∀ {rs : List R} {vs : List V}, KL K H st' sd' G' σ H' rs vs → RdyL K H0 st' sd' G' σ H' rs vs
  | [], [], _ => trivial
  | r :: rs, v :: vs, h => by
    obtain ⟨h1, h2, h3, h4⟩ := h
    refine ⟨?_, KL.ready f p h3, h4⟩
    cases r with
    | val d => exact h1
    | new ds =>
      obtain ⟨a, vs, hb, k1, k2, k3, k4, k5⟩ := h1
      refine ⟨a, vs, hb, k1, k2, k3, f.noneB k4, k5, fun j es z1 z2 => ?_⟩
      obtain ⟨_, ws, w⟩ := p.owned f.rel z1 z2
      rw [k4] at w; cases w
    | bor i => exact h2
    | scr i => exact h2
    | src => exact h1
  | [], _ :: _, h => h.elim
  | _ :: _, [], h => h.elim
theorem Rel.setC (r : Rel K st sd G σ H) (i : Nat) (hs : st.S ≠ none) : Rel K (setS st i .cel) sd G (σ.set i (some (.ref sd.2))) H := by
  have nj : ∀ {j : Nat} {ds : List PyData}, (st.γ.set i .cel)[j]? = some (.own ds) → i ≠ j := fun {j ds} e z => by
    subst z
    by_cases hi : i < st.γ.length
    · rw [List.getElem?_set_self hi] at e; cases e
    · rw [List.getElem?_eq_none (by simpa using hi)] at e; cases e
  refine ⟨r.sub, by simpa [setS] using r.len, fun j x e => ?_, fun j k ds es a e1 e2 e3 e4 => ?_, r.src⟩
  · have e : (st.γ.set i .cel)[j]? = some x := e
    by_cases hj : i = j
    · subst hj
      have hi : i < st.γ.length := by
        have := (List.getElem?_eq_some_iff.mp e).1
        simpa using this
      rw [List.getElem?_set_self hi] at e
      cases e
      exact ⟨by rw [List.getElem?_set_self (by rw [← r.len]; exact hi)], hs⟩
    · rw [List.getElem?_set_ne hj] at e
      rw [List.getElem?_set_ne hj]
      exact r.sl j x e
  · have h1 := nj e1
    have h2 := nj e2
    have e1 : (st.γ.set i .cel)[j]? = some (.own ds) := e1
    have e2 : (st.γ.set i .cel)[k]? = some (.own es) := e2
    rw [List.getElem?_set_ne h1] at e1 e3
    rw [List.getElem?_set_ne h2] at e2 e4
    exact r.dis j k ds es a e1 e2 e3 e4
def setL : List (Option V) → List Nat → List V → List (Option V)
  | σ, i :: is, v :: vs => setL (σ.set i (some v)) is vs
  | σ, _, _ => σ
theorem FI.store (f : FI K S0 sd0 G0 H0 st sd G σ H) {r : R} {v : V} (i : Nat) (h : Rdy K H0 st sd G σ H r v) : FI K S0 sd0 G0 H0 (setS st i (svOf r)) sd G (σ.set i (some v)) H := by
  have own : ∀ (x : SV), (∀ ds, x = .own ds → ∀ a, v = .ref a → H0 a = none) → ∀ (j : Nat) (ds : List D) (a : Addr), (st.γ.set i x)[j]? = some (.own ds) → (σ.set i (some v))[j]? = some (some (.ref a)) → H0 a = none := fun x hx j ds a e1 e2 => by
    by_cases hj : i = j
    · subst hj
      have hi : i < st.γ.length := by
        have := (List.getElem?_eq_some_iff.mp e1).1
        simpa using this
      rw [List.getElem?_set_self hi] at e1
      rw [List.getElem?_set_self (by rw [← f.rel.len]; exact hi)] at e2
      cases e1; cases e2
      exact hx ds rfl a rfl
    · rw [List.getElem?_set_ne hj] at e1 e2
      exact f.own j ds a e1 e2
  cases r with
  | val d => exact f.slots (f.rel.setV h i) (own _ fun ds e => nomatch e)
  | new ds =>
    obtain ⟨a, vs, rfl, k1, k2, k3, k4, k5, k6⟩ := h
    exact f.slots (f.rel.setO i k1 k2 k3 k5 k6) (own _ fun ds e b hb => by cases hb; exact k4)
  | bor i => exact h.elim
  | scr i => exact h.elim
  | src =>
    obtain ⟨rfl, k⟩ := h
    exact f.slots (f.rel.setR i k) (own _ fun ds e => nomatch e)
theorem Rdy.after {r r' : R} {v v' : V} {i : Nat} (hl : st.γ.length = σ.length) (h : Rdy K H0 st sd G σ H r v) (hd : ∀ ds a es, r = .new ds → v = .ref a → r' = .new es → v' ≠ .ref a) : Rdy K H0 (setS st i (svOf r')) sd G (σ.set i (some v')) H r v := by
  cases r with
  | val d => exact h
  | new ds =>
    obtain ⟨a, vs, rfl, k1, k2, k3, k4, k5, k6⟩ := h
    refine ⟨a, vs, rfl, k1, k2, k3, k4, k5, fun j es e1 e2 => ?_⟩
    have e1 : (st.γ.set i (svOf r'))[j]? = some (.own es) := e1
    by_cases hj : i = j
    · subst hj
      have hi : i < st.γ.length := by
        have := (List.getElem?_eq_some_iff.mp e1).1
        simpa using this
      rw [List.getElem?_set_self hi] at e1
      rw [List.getElem?_set_self (by omega)] at e2
      cases e2
      cases r' with
      | new es' => exact hd ds a es' rfl rfl rfl rfl
      | _ => simp [svOf] at e1
    · rw [List.getElem?_set_ne hj] at e1 e2
      exact k6 j es e1 e2
  | bor i => exact h
  | scr i => exact h
  | src => exact h
theorem RdyL.after {r' : R} {v' : V} {i : Nat} (hl : st.γ.length = σ.length) : ∀ {rs : List R} {vs : List V}, RdyL K H0 st sd G σ H rs vs → (∀ ds a, r' = .new ds → v' = .ref a → ∀ (k : Nat) es, rs[k]? = some (.new es) → vs[k]? ≠ some (.ref a)) → RdyL K H0 (setS st i (svOf r')) sd G (σ.set i (some v')) H rs vs
  | [], [], _, _ => trivial
  | r :: rs, v :: vs, h, hd => by
    obtain ⟨h1, h2, h3⟩ := h
    refine ⟨h1.after hl fun ds a es e1 e2 e3 e4 => ?_, RdyL.after hl h2 fun ds a e1 e2 k es z1 z2 => hd ds a e1 e2 (k + 1) es (by simpa using z1) (by simpa using z2), h3⟩
    subst e1 e2 e3 e4
    exact hd es a rfl rfl 0 ds rfl rfl
  | [], _ :: _, h, _ => h.elim
  | _ :: _, [], h, _ => h.elim
theorem FI.storeL : ∀ (is : List Nat) (rs : List R) (vs : List V) {st : Stt} {σ : List (Option V)}, FI K S0 sd0 G0 H0 st sd G σ H → RdyL K H0 st sd G σ H rs vs → asgL is rs st = some st' → FI K S0 sd0 G0 H0 st' sd G (setL σ is vs) H
  | [], [], [], st, σ, f, h, e => by cases e; exact f
  | i :: is, r :: rs, v :: vs, st, σ, f, h, e => by
    obtain ⟨h1, h2, h3⟩ := h
    exact FI.storeL is rs vs (f.store i h1) (h2.after f.rel.len h3) e
  | [], [], _ :: _, st, σ, f, h, e => h.elim
  | [], _ :: _, _, st, σ, f, h, e => by simp [asgL] at e
  | _ :: _, [], _, st, σ, f, h, e => by simp [asgL] at e
  | _ :: _, _ :: _, [], st, σ, f, h, e => h.elim
theorem bindT_val : ∀ (t : Tg) {d : D} {γ γ' : List SV}, bindT t d γ = some γ' → (∀ (j : Nat) (ds : List D), γ'[j]? = some (.own ds) → γ[j]? = some (.own ds) ∧ j ∉ t.slots) := by
  intro t
  refine Tg.rec (motive_1 := fun t => ∀ {d : D} {γ γ' : List SV}, bindT t d γ = some γ' → (∀ (j : Nat) (ds : List D), γ'[j]? = some (.own ds) → γ[j]? = some (.own ds) ∧ j ∉ t.slots))
    (motive_2 := fun ts => ∀ {ds : List D} {γ γ' : List SV}, bindTs ts ds γ = some γ' → (∀ (j : Nat) (es : List D), γ'[j]? = some (.own es) → γ[j]? = some (.own es) ∧ j ∉ slotsL ts)) ?_ ?_ ?_ ?_ t
  · intro i d γ γ' e j ds h
    simp only [bindT, Option.some.injEq] at e
    subst e
    by_cases hj : i = j
    · subst hj
      by_cases hi : i < γ.length
      · rw [List.getElem?_set_self hi] at h; cases h
      · rw [List.getElem?_eq_none (by simpa using hi)] at h; cases h
    · rw [List.getElem?_set_ne hj] at h
      exact ⟨h, by simp [Tg.slots]; exact fun z => hj z.symm⟩
  · intro ts ih d γ γ' e j ds h
    cases d with
    | tuple xs =>
      simp only [bindT] at e
      simpa [Tg.slots] using ih e j ds h
    | list xs =>
      simp only [bindT] at e
      simpa [Tg.slots] using ih e j ds h
    | _ => simp [bindT] at e
  · intro ds γ γ' e j es h
    cases ds with
    | nil => simp only [bindTs, Option.some.injEq] at e; subst e; exact ⟨h, by simp [slotsL]⟩
    | cons a b => simp [bindTs] at e
  · intro t ts ih1 ih2 ds γ γ' e j es h
    cases ds with
    | nil => simp [bindTs] at e
    | cons a b =>
      simp only [bindTs] at e
      obtain ⟨γ1, e1, e2⟩ := bind_some e
      obtain ⟨h1, h2⟩ := ih2 e2 j es h
      obtain ⟨h3, h4⟩ := ih1 e1 j es h1
      exact ⟨h3, by simp [slotsL]; exact ⟨h4, h2⟩⟩
theorem FI.bound (f : FI K S0 sd0 G0 H0 st sd G σ H) {t : Tg} {d : D} {γ' : List SV} (e : bindT t d st.γ = some γ') {σ' : List (Option V)} {H' : Hp} (b : Bound K st.S sd G H γ' t.slots st.γ σ σ' H') : FI K S0 sd0 G0 H0 ⟨γ', st.S⟩ sd G σ' H' := by
  obtain ⟨rfl, r, _, n, _⟩ := b
  refine f.slots r fun i ds a h1 h2 => ?_
  obtain ⟨k1, k2⟩ := bindT_val t e i ds h1
  exact f.own i ds a k1 (by rw [← (n i k2).2]; exact h2)
end
end DE

set_option Elab.async false
set_option linter.all false
set_option maxRecDepth 100000
set_option maxHeartbeats 4000000
set_option autoImplicit false
/-! The soundness of the language's statements. -/
namespace DE
open PySem PySem.Spec PyProof.Rows L2

structure FitS (X : Cx) (k : Nat) (cx : Ctx) (Φ : Nat → Fn) (C : Nat → D) : Prop where
  fit : Fits X k cx Φ C
  fnr : cx.fnr = none
  kind : X.env.scope.kind = .function
  passes : PassesOwn (model X.prog X.w) X.A X.env X.xe
def OkS (Φ : Nat → Fn) (C : Nat → D) (n k : Nat) (c : Stm) : Prop := ∀ {x : Ctx} {X : Cx} {s : Stmt}, FitS X k x Φ C → chkS x c s = true → PS X s (rdS X.K (exS Φ C n c))
def OkB (Φ : Nat → Fn) (C : Nat → D) (n k : Nat) (c : List Stm) : Prop := ∀ {x : Ctx} {X : Cx} {s : List Stmt}, FitS X k x Φ C → chkB x c s = true → PSs X s (rdS X.K (exB Φ C n c))

section
variable {X : Cx} {pos : Pos}
theorem pss_gNil : PSs X [] (rdS X.K fun st => some (.nx, st)) := PSsimp pss_nil fun D σ H ⟨S0, sd0, G0, H0, st, sd, G, o, st', f, e, q⟩ => by
  cases e
  exact q σ sd G H f (Same.refl _)
theorem pss_gSeq {φ ψ : Pst} {s : Stmt} {r : List Stmt} (h1 : PS X s (rdS X.K φ)) (h2 : PSs X r (rdS X.K ψ)) : PSs X (s :: r) (rdS X.K (gSeq φ ψ)) := PSsimp (pss_cons h1 h2) fun D σ H ⟨S0, sd0, G0, H0, st, sd, G, o, st', f, e, q⟩ => by
  obtain ⟨⟨o1, st1⟩, e1, e2⟩ := bind_some e
  refine ⟨S0, sd0, G0, H0, st, sd, G, o1, st1, f, e1, ?_⟩
  cases o1 with
  | nx => exact fun σ1 sd1 G1 H1 f1 s1 => ⟨S0, sd0, G0, H0, st1, sd1, G1, o, st', f1, e2, q.mono s1⟩
  | bk => cases e2; exact q
  | ct => cases e2; exact q
  | rt a => cases e2; exact q
theorem ps_gIf {c : Expr} {a b : List Stmt} {φ : Ph} {ψ χ : Pst} (hc : PT X c (rdT X.K (fT φ))) (ha : PSs X a (rdS X.K ψ)) (hb : PSs X b (rdS X.K χ)) : PS X (.If c a b pos) (rdS X.K (gIf (fT φ) ψ χ)) := PSimp (ps_if hc ha hb) fun D σ H ⟨S0, sd0, G0, H0, st, sd, G, o, st', f, e, q⟩ => by
  obtain ⟨⟨k, st1⟩, e1, e2⟩ := bind_some e
  refine ⟨st, sd, G, k, st1, f.rel, e1, fun sd1 G1 H1 p1 => ?_⟩
  cases k with
  | true =>
    rw [if_pos rfl] at e2 ⊢
    exact ⟨S0, sd0, G0, H0, st1, sd1, G1, o, st', f.post p1, e2, q.mono p1.ext⟩
  | false =>
    rw [if_neg Bool.false_ne_true] at e2 ⊢
    exact ⟨S0, sd0, G0, H0, st1, sd1, G1, o, st', f.post p1, e2, q.mono p1.ext⟩
theorem ps_gRet {e : Expr} {φ : Ph} (h : PE X e (rd X.K φ)) : PS X (.Return (some e) pos) (rdS X.K (gRet (fA φ))) := PSimp (ps_ret (toArg h)) fun D σ H ⟨S0, sd0, G0, H0, st, sd, G, o, st', f, e, q⟩ => by
  obtain ⟨⟨a, st1⟩, e1, e2⟩ := map_some e
  cases e2
  exact ⟨st, sd, G, a, _, f.rel, e1, fun v sd1 G1 H1 p1 k1 => q v σ sd1 G1 H1 (f.post p1) p1.ext k1⟩
theorem ps_gRetN : PS X (.Return none pos) (rdS X.K fun st => some (.rt (.val .none), st)) := PSimp ps_retN fun D σ H ⟨S0, sd0, G0, H0, st, sd, G, o, st', f, e, q⟩ => by
  cases e
  exact q .non σ sd G H f (Same.refl _) .non
theorem ps_gBrk : PS X (.Break pos) (rdS X.K fun st => some (.bk, st)) := PSimp ps_break fun D σ H ⟨S0, sd0, G0, H0, st, sd, G, o, st', f, e, q⟩ => by
  cases e
  exact q σ sd G H f (Same.refl _)
theorem ps_gCont : PS X (.Continue pos) (rdS X.K fun st => some (.ct, st)) := PSimp ps_continue fun D σ H ⟨S0, sd0, G0, H0, st, sd, G, o, st', f, e, q⟩ => by
  cases e
  exact q σ sd G H f (Same.refl _)
theorem ps_gPass : PS X (.Pass pos) (rdS X.K fun st => some (.nx, st)) := PSimp ps_pass fun D σ H ⟨S0, sd0, G0, H0, st, sd, G, o, st', f, e, q⟩ => by
  cases e
  exact q σ sd G H f (Same.refl _)
theorem ps_gWhile {c : Expr} {b : List Stmt} {φ : Ph} {ψ : Pst} {n : Nat} (hp : PassesOwn (model X.prog X.w) X.A X.env X.xe) (hc : PT X c (rdT X.K (fT φ))) (hb : PSs X b (rdS X.K ψ)) : PS X (.While c b [] pos) (rdS X.K (whileF (fT φ) ψ n)) := PSimp (ps_while hp hc hb) fun D σ H ⟨S0, sd0, G0, H0, st, sd, G, o, st', f, e, q⟩ => by
  refine ⟨fun m σ1 H1 => ∃ st1 sd1 G1, FI X.K S0 sd0 G0 H0 st1 sd1 G1 σ1 H1 ∧ Same G G1 ∧ whileF (fT φ) ψ m st1 = some (o, st'), ⟨n, st, sd, G, f, Same.refl _, e⟩, ?_⟩
  rintro m σ1 H1 ⟨st1, sd1, G1, f1, s1, e1⟩
  cases m with
  | zero => cases e1
  | succ m =>
    obtain ⟨⟨k, st2⟩, e2, e3⟩ := bind_some e1
    refine ⟨st1, sd1, G1, k, st2, f1.rel, e2, fun sd2 G2 H2 p2 => ?_⟩
    have f2 := f1.post p2
    have s2 := s1.trans p2.ext
    cases k with
    | false =>
      dsimp only
      rw [if_neg Bool.false_ne_true] at e3 ⊢
      cases e3
      exact q σ1 sd2 G2 H2 f2 s2
    | true =>
      dsimp only
      rw [if_pos rfl] at e3 ⊢
      obtain ⟨⟨o3, st3⟩, e4, e5⟩ := bind_some e3
      refine ⟨fun σ4 H4 => ∃ st4 sd4 G4, FI X.K S0 sd0 G0 H0 st4 sd4 G4 σ4 H4 ∧ Same G G4 ∧ whileF (fT φ) ψ m st4 = some (o, st'), fun σ4 H4 h4 => ⟨m, Nat.lt_succ_self _, h4⟩, S0, sd0, G0, H0, st2, sd2, G2, o3, st3, f2, e4, ?_⟩
      cases o3 with
      | nx => exact fun σ4 sd4 G4 H4 f4 s4 => ⟨st3, sd4, G4, f4, s2.trans s4, e5⟩
      | ct => exact fun σ4 sd4 G4 H4 f4 s4 => ⟨st3, sd4, G4, f4, s2.trans s4, e5⟩
      | bk => cases e5; exact fun σ4 sd4 G4 H4 f4 s4 => q σ4 sd4 G4 H4 f4 (s2.trans s4)
      | rt a => cases e5; exact fun v σ4 sd4 G4 H4 f4 s4 h => q v σ4 sd4 G4 H4 f4 (s2.trans s4) h
theorem ps_gFor {tg it : Expr} {b : List Stmt} {t : Tg} {φ : PhL} {ψ : Pst} (hp : PassesOwn (model X.prog X.w) X.A X.env X.xe) (hc : X.calm = true) (hi : PI X tg it (rdI X.K φ)) (hg : PG X tg (gOf X.K t)) (hb : PSs X b (rdS X.K ψ))
    (hs : ∀ x, foldedSetIterable it X.env x = pure x) : PS X (.For tg it b [] pos) (rdS X.K (gFor t φ ψ)) := PSimp (ps_for hp hc hi hg hb hs) fun D σ H ⟨S0, sd0, G0, H0, st, sd, G, o, st', f, e, q⟩ => by
  obtain ⟨⟨items, st1⟩, e1, e2⟩ := bind_some e
  refine ⟨st, sd, G, items, st1, f.rel, e1, fun J sd1 G1 H1 p1 wk => ?_⟩
  refine for_it wk (fun i σ2 H2 => ∃ st2 sd2 G2, FI X.K S0 sd0 G0 H0 st2 sd2 G2 σ2 H2 ∧ Same G1 G2 ∧ forF t ψ (items.drop i) st2 = some (o, st')) ?_ ?_ ?_ ?_
  · exact ⟨st1, sd1, G1, f.post p1, Same.refl _, by simpa using e2⟩
  · rintro i σ2 H2 _ ⟨st2, sd2, G2, f2, s2, _⟩
    exact s2.trans f2.rel.sub
  · rintro i x σ2 H2 H3 hi ⟨st2, sd2, G2, f2, s2, ev⟩ ⟨d, hd, y⟩
    have hdrop : items.drop i = d :: items.drop (i + 1) := by
      rw [List.drop_eq_getElem_cons hi]
      have := (List.getElem?_eq_some_iff.mp hd).2
      rw [this]
    rw [hdrop] at ev
    simp only [forF] at ev
    obtain ⟨γ1, b1, ev⟩ := bind_some ev
    obtain ⟨⟨o3, st3⟩, e4, e5⟩ := bind_some ev
    obtain ⟨G3, p3, en3⟩ := y.post f2.rel s2
    have f3 := f2.post p3
    refine gOf_ok t (S := st2.S) f3.rel en3 b1 fun σ4 H4 bd => ?_
    have f4 := f3.bound b1 bd
    obtain rfl : H3 = H4 := bd.1
    have s3 := s2.trans p3.ext
    refine ⟨S0, sd0, G0, H0, _, sd2, G3, o3, st3, f4, e4, ?_⟩
    cases o3 with
    | nx => exact fun σ5 sd5 G5 H5 f5 s5 => ⟨st3, sd5, G5, f5, s3.trans s5, e5⟩
    | ct => exact fun σ5 sd5 G5 H5 f5 s5 => ⟨st3, sd5, G5, f5, s3.trans s5, e5⟩
    | bk => cases e5; exact fun σ5 sd5 G5 H5 f5 s5 => q σ5 sd5 G5 H5 f5 (p1.ext.trans (s3.trans s5))
    | rt a => cases e5; exact fun v σ5 sd5 G5 H5 f5 s5 h => q v σ5 sd5 G5 H5 f5 (p1.ext.trans (s3.trans s5)) h
  · rintro σ2 H2 ⟨st2, sd2, G2, f2, s2, ev⟩
    rw [List.drop_length] at ev
    cases ev
    exact q σ2 sd2 G2 H2 f2 (p1.ext.trans s2)

/-! ### stores -/
theorem KL.one {K : PySem.W.Frag} {H : Hp} {st' : Stt} {sd' : Addr × Addr} {G' : Hp} {σ : List (Option V)} {H' : Hp} {r : R} {v : V} (h : RRel K H st' sd' G' σ H' r v) (nb : notBor r) : KL K H st' sd' G' σ H' [r] [v] := ⟨h, nb, trivial, fun _ _ _ _ k es z => by simp at z⟩
theorem ps_gAsg {tg : Expr} {e : Expr} {i : Nat} {φ : Ph} (h : ∀ {te : TE}, PE X e te → PS X (.Assign [tg] e pos) (tAsg te (gName i))) (he : PE X e (rd X.K φ)) : PS X (.Assign [tg] e pos) (rdS X.K (gPar [i] (fKs [φ]))) := PSimp (h (toKept he)) fun D σ H ⟨S0, sd0, G0, H0, st, sd, G, o, st', f, e, q⟩ => by
  obtain ⟨⟨rs, st1⟩, e1, e2⟩ := bind_some e
  obtain ⟨⟨r, st2⟩, e3, e4⟩ := bind_some e1
  cases e4
  obtain ⟨st4, e5, e6⟩ := map_some e2
  cases e6
  refine ⟨st, sd, G, r, _, f.rel, e3, fun v sd1 G1 H1 p1 k1 nb => ?_⟩
  exact q _ sd1 G1 H1 (FI.storeL [i] [r] [v] (f.post p1) ((KL.one k1 nb).ready f p1) e5) p1.ext
theorem gAsg_lc {σ : List (Option V)} {H : Hp} {φ : Ph} {i : Nat} {D : Ends} (h : rdS X.K (gPar [i] (fKs [φ])) D σ H) : tAsg (rdK X.K (fK φ)) (gName i) D σ H := by
  obtain ⟨S0, sd0, G0, H0, st, sd, G, o, st', f, e, q⟩ := h
  obtain ⟨⟨rs, st1⟩, e1, e2⟩ := bind_some e
  obtain ⟨⟨r, st2⟩, e3, e4⟩ := bind_some e1
  cases e4
  obtain ⟨st4, e5, e6⟩ := map_some e2
  cases e6
  refine ⟨st, sd, G, r, _, f.rel, e3, fun v sd1 G1 H1 p1 k1 nb => ?_⟩
  exact q _ sd1 G1 H1 (FI.storeL [i] [r] [v] (f.post p1) ((KL.one k1 nb).ready f p1) e5) p1.ext
theorem rdK_rd {σ : List (Option V)} {H : Hp} {Q : VK} {φ : Ph} (h : rdK X.K (fK φ) σ H Q) : rd X.K φ σ H Q := by
  obtain ⟨st, sd, G, r, st', rel, e, q⟩ := h
  obtain ⟨⟨r1, st1⟩, e1, e2⟩ := bind_some e
  refine ⟨st, sd, G, r1, st1, rel, e1, fun v sd' G' H' p rr => ?_⟩
  cases r1 with
  | bor i =>
    obtain ⟨⟨d, st2⟩, e3, e4⟩ := map_some e2
    cases e4
    obtain ⟨G2, p2, en⟩ := p.toV rel rr e3
    exact q v sd' G2 H' p2 en trivial
  | val d => cases e2; exact q v sd' G' H' p rr trivial
  | new d => cases e2; exact q v sd' G' H' p rr trivial
  | src => cases e2; exact q v sd' G' H' p rr trivial
  | scr => cases e2
theorem par2 {σ : List (Option V)} {H : Hp} {i j : Nat} {ω : Stt → Option (List R × Stt)} {D : Ends} (hl : ∀ st rs st', ω st = some (rs, st') → rs.length = 2) (h : rdS X.K (gPar [i, j] ω) D σ H) : tPar i j (rdKs X.K ω) D σ H := by
  obtain ⟨S0, sd0, G0, H0, st, sd, G, o, st', f, e, q⟩ := h
  obtain ⟨⟨rs, st1⟩, e1, e2⟩ := bind_some e
  obtain ⟨st4, e5, e6⟩ := map_some e2
  cases e6
  refine ⟨st, sd, G, rs, _, f.rel, e1, fun vs sd1 G1 H1 p1 k1 => ?_⟩
  have h2 := hl _ _ _ e1
  have h3 := k1.len
  have f2 := FI.storeL [i, j] rs vs (f.post p1) (k1.ready f p1) e5
  match vs, h3 with
  | [a, b], _ => exact ⟨a, b, rfl, q _ sd1 G1 H1 f2 p1.ext⟩
  | [], h3 => simp at h3; simp [h3] at h2
  | [_], h3 => simp at h3; omega
  | _ :: _ :: _ :: _, h3 => simp at h3; omega
theorem par3 {σ : List (Option V)} {H : Hp} {i j l : Nat} {ω : Stt → Option (List R × Stt)} {D : Ends} (hl : ∀ st rs st', ω st = some (rs, st') → rs.length = 3) (h : rdS X.K (gPar [i, j, l] ω) D σ H) : tPar3 i j l (rdKs X.K ω) D σ H := by
  obtain ⟨S0, sd0, G0, H0, st, sd, G, o, st', f, e, q⟩ := h
  obtain ⟨⟨rs, st1⟩, e1, e2⟩ := bind_some e
  obtain ⟨st4, e5, e6⟩ := map_some e2
  cases e6
  refine ⟨st, sd, G, rs, _, f.rel, e1, fun vs sd1 G1 H1 p1 k1 => ?_⟩
  have h2 := hl _ _ _ e1
  have h3 := k1.len
  have f2 := FI.storeL [i, j, l] rs vs (f.post p1) (k1.ready f p1) e5
  match vs, h3 with
  | [a, b, c], _ => exact ⟨a, b, c, rfl, q _ sd1 G1 H1 f2 p1.ext⟩
  | [], h3 => simp at h3; simp [h3] at h2
  | [_], h3 => simp at h3; omega
  | [_, _], h3 => simp at h3; omega
  | _ :: _ :: _ :: _ :: _, h3 => simp at h3; omega
theorem fKs_len : ∀ (φs : List Ph) (st : Stt) (rs : List R) (st' : Stt), fKs φs st = some (rs, st') → rs.length = φs.length
  | [], st, rs, st', e => by cases e; rfl
  | φ :: φs, st, rs, st', e => by
    obtain ⟨⟨r, st1⟩, e1, e2⟩ := bind_some e
    obtain ⟨⟨rs2, st2⟩, e3, e4⟩ := map_some e2
    cases e4
    simp [fKs_len φs _ _ _ e3]

theorem ps_gAsgT {tg e : Expr} {t : Tg} {φ : Ph} (hg : PG X tg (gOf X.K t)) (he : PE X e (rd X.K φ)) (hs : swapsWithSole [tg] e pos.line X.env = pure false) (hw : swappedStores [tg] e X.env = pure none) (h1 : (assignEach [tg] X.env).map (·.2) = [assign tg X.env]) :
    PS X (.Assign [tg] e pos) (rdS X.K (gAsgT t (fV φ))) := PSimp (ps_asg (toVal he) hg hs hw h1) fun D σ H ⟨S0, sd0, G0, H0, st, sd, G, o, st', f, e, q⟩ => by
  obtain ⟨⟨d, st1⟩, e1, e2⟩ := bind_some e
  obtain ⟨st4, e5, e6⟩ := map_some e2
  obtain ⟨γ1, e7, e8⟩ := map_some e5
  cases e6
  subst e8
  refine ⟨st, sd, G, d, _, f.rel, e1, fun v sd1 G1 H1 p1 k1 => ?_⟩
  have f1 := f.post p1
  refine gOf_ok t (S := st1.S) f1.rel k1 e7 fun σ4 H4 bd => ?_
  have f4 := f1.bound e7 bd
  obtain rfl : H1 = H4 := bd.1
  exact q σ4 sd1 G1 H1 f4 p1.ext
theorem ownAt_eq {st : Stt} {i : Nat} {ds : List D} (h : ownAt st i = some ds) : st.γ[i]? = some (.own ds) := by
  unfold ownAt at h
  split at h
  · cases h; assumption
  · cases h
theorem fInt_of {φ : Ph} {st : Stt} {i : Int} {st' : Stt} (h : fInt φ st = some (i, st')) : fP φ st = some (.int i, st') := by
  obtain ⟨⟨d, st1⟩, e1, e2⟩ := bind_some h
  obtain ⟨j, e3, e4⟩ := map_some e2
  cases e4
  cases d with
  | int j' => cases e3; exact e1
  | _ => cases e3
theorem ps_gSetI {o ix e : Expr} {i : Nat} {φ φi : Ph} {p1 : Pos} (ho : PE X o (tVar i)) (hi : PE X ix (rd X.K φi)) (he : PE X e (rd X.K φ)) (ha : ∀ v, assign (.Subscript o ix p1) X.env v = (do
      let ov ← holding [v] (eval o X.env)
      let iv ← holding [v, ov] (eval ix X.env)
      standAt p1
      holding [v, ov, iv] (setItem ov iv v)
      release [v, ov, iv] [])) (hs : swapsWithSole [.Subscript o ix p1] e pos.line X.env = pure false) (hw : swappedStores [.Subscript o ix p1] e X.env = pure none) :
    PS X (.Assign [.Subscript o ix p1] e pos) (rdS X.K (gSetI i (fInt φi) (fV φ))) := PSimp (ps_asg (toVal he) (pg_sub ho (toRead hi) set_list ha) hs hw rfl) fun D σ H ⟨S0, sd0, G0, H0, st, sd, G, o, st', f, e, q⟩ => by
  obtain ⟨⟨d, st1⟩, e1, e2⟩ := bind_some e
  obtain ⟨ds0, e3, e4⟩ := bind_some e2
  obtain ⟨⟨k, st2⟩, e5, e6⟩ := bind_some e4
  obtain ⟨ds, e7, e8⟩ := bind_some e6
  obtain ⟨j, e9, e10⟩ := map_some e8
  cases e10
  refine ⟨st, sd, G, d, _, f.rel, e1, fun v sd1 G1 H1 p1 k1 => ?_⟩
  have f1 := f.post p1
  obtain ⟨a, vs, h1, h2, h3, h4, h5⟩ := f1.rel.sl i _ (ownAt_eq e3)
  refine ⟨_, h1, st1, sd1, G1, _, st2, f1.rel, fInt_of e5, fun w sd2 G2 H2 p2 k2 => ?_⟩
  have f2 := f1.post p2
  obtain ⟨a', vs2, g1, g2, g3, g4, g5⟩ := f2.rel.sl i _ (ownAt_eq e7)
  rw [h1] at g1; cases g1
  obtain rfl := k2.int
  refine ⟨a, vs2, k, j, rfl, rfl, g2, by rw [g4.length]; exact e9, ?_⟩
  exact q _ sd2 G2 _ (f2.write (ownAt_eq e7) h1 (g4.set (k1.mono p2.ext) j)) (p1.ext.trans p2.ext)
theorem ps_gApp {o e : Expr} {i : Nat} {φ : Ph} {ap cp : Pos} (ho : PE X o (tVar i)) (he : PE X e (rd X.K φ)) (hb : attributeBase o ("append" : Str) X.env (eval o X.env) = eval o X.env) (hl : (ap.endLine == cp.line) = true) (hn : isStar e = false) :
    PS X (.Expr (.Call (.Attribute o ("append" : Str) ap) [e] [] cp) pos) (rdS X.K (gApp i (fV φ))) := by
  have s1 := star1 (es := []) (env := X.env) hn
  have few : ((backTo cp (starEach [e] X.env)).all (fun x => !x.1) && (backToKw cp (keywordEach [] X.env)).all (fun x => x.1.isSome) && decide (([e] : List Expr).length + ([] : List Keyword).length + (if ([] : List Keyword).isEmpty then 0 else 1) < 30)) = true := by rw [s1]; rfl
  refine PSimp (ps_expr (pe_bm PySem.F.plainAttrs_list PySem.F.slot_list_append PySem.F.type_list_append (fun pins s σ H x xs v us Q I rx rv h => mt_append pins s σ H x xs v us Q I rx rv h) ho (pa_cons (toVal he) pa_nil s1) hb few hl s1)) fun D σ H ⟨S0, sd0, G0, H0, st, sd, G, o, st', f, e, q⟩ => ?_
  obtain ⟨ds0, e1, e2⟩ := bind_some e
  obtain ⟨⟨d, st1⟩, e3, e4⟩ := bind_some e2
  obtain ⟨ds, e5, e6⟩ := bind_some e4
  dsimp only at e6
  split at e6
  · rename_i hz
    cases e6
    obtain ⟨a, vs, h1, h2, h3, h4, h5⟩ := f.rel.sl i _ (ownAt_eq e1)
    refine ⟨_, h1, .inl ⟨rfl, _, SqL.of h2⟩, st, sd, G, d, st1, f.rel, e3, fun v sd1 G1 H1 p1 k1 => ?_⟩
    have f1 := f.post p1
    obtain ⟨a', vs2, g1, g2, g3, g4, g5⟩ := f1.rel.sl i _ (ownAt_eq e5)
    rw [h1] at g1; cases g1
    refine ⟨a, vs2, v, rfl, rfl, g2, by rw [g4.length]; exact Nat.lt_of_lt_of_le hz (by rw [sizeLine_eq]; decide), ?_⟩
    exact q _ sd1 G1 _ (f1.write (ownAt_eq e5) h1 (g4.append (.one k1))) p1.ext
  · cases e6
theorem ps_gExt {o e : Expr} {i : Nat} {φ : Ph} {ap cp : Pos} (ho : PE X o (tVar i)) (he : PE X e (rd X.K φ)) (hb : attributeBase o ("extend" : Str) X.env (eval o X.env) = eval o X.env) (hl : (ap.endLine == cp.line) = true) (hn : isStar e = false) :
    PS X (.Expr (.Call (.Attribute o ("extend" : Str) ap) [e] [] cp) pos) (rdS X.K (gExt i (fP φ))) := by
  have s1 := star1 (es := []) (env := X.env) hn
  have few : ((backTo cp (starEach [e] X.env)).all (fun x => !x.1) && (backToKw cp (keywordEach [] X.env)).all (fun x => x.1.isSome) && decide (([e] : List Expr).length + ([] : List Keyword).length + (if ([] : List Keyword).isEmpty then 0 else 1) < 30)) = true := by rw [s1]; rfl
  refine PSimp (ps_expr (pe_bm PySem.F.plainAttrs_list PySem.F.slot_list_extend PySem.F.type_list_extend (fun pins s σ H x xs v us Q I rx rv h => mt_extend pins s σ H x xs v us Q I rx rv h) ho (pa_cons (toRead he) pa_nil s1) hb few hl s1)) fun D σ H ⟨S0, sd0, G0, H0, st, sd, G, o, st', f, e, q⟩ => ?_
  obtain ⟨ds0, e1, e2⟩ := bind_some e
  obtain ⟨⟨d, st1⟩, e3, e4⟩ := bind_some e2
  obtain ⟨ds, e5, e6⟩ := bind_some e4
  obtain ⟨es, e7, e8⟩ := bind_some e6
  dsimp only at e8
  split at e8
  · rename_i hz
    cases e8
    obtain ⟨a, vs, h1, h2, h3, h4, h5⟩ := f.rel.sl i _ (ownAt_eq e1)
    refine ⟨_, h1, .inl ⟨rfl, _, SqL.of h2⟩, st, sd, G, d, st1, f.rel, e3, fun v sd1 G1 H1 p1 k1 => ?_⟩
    have f1 := f.post p1
    obtain ⟨a', vs2, g1, g2, g3, g4, g5⟩ := f1.rel.sl i _ (ownAt_eq e5)
    rw [h1] at g1; cases g1
    cases d with
    | list xs =>
      cases e7
      obtain ⟨b, ws, rfl, k2, k3, _⟩ := k1.list f1.rel
      refine ⟨a, b, vs2, ws, rfl, rfl, g2, k2, by rw [g4.length, k3.length]; exact Nat.le_trans hz (by rw [sizeLine_eq]; decide), ?_⟩
      exact q _ sd1 G1 _ (f1.write (ownAt_eq e5) h1 (g4.append k3)) p1.ext
    | _ => cases e7
  · cases e8
theorem ps_gPop {o : Expr} {i : Nat} {ap cp : Pos} (ho : PE X o (tVar i)) (hb : attributeBase o ("pop" : Str) X.env (eval o X.env) = eval o X.env) (hl : (ap.endLine == cp.line) = true) :
    PS X (.Expr (.Call (.Attribute o ("pop" : Str) ap) [] [] cp) pos) (rdS X.K (gPop i)) := by
  refine PSimp (ps_expr (pe_bm0 PySem.F.plainAttrs_list PySem.F.slot_list_pop PySem.F.type_list_pop (fun pins s σ H x xs v us Q I rx rv h => mt_pop pins s σ H x xs v us Q I rx rv h) ho hb hl)) fun D σ H ⟨S0, sd0, G0, H0, st, sd, G, o, st', f, e, q⟩ => ?_
  obtain ⟨ds, e1, e2⟩ := bind_some e
  split at e2
  · cases e2
  · rename_i hz
    cases e2
    obtain ⟨a, vs, h1, h2, h3, h4, h5⟩ := f.rel.sl i _ (ownAt_eq e1)
    have hne : vs ≠ [] := fun z => by
      subst z
      have := h4.length
      exact hz (List.length_eq_zero_iff.mp this.symm)
    have hlt : vs.length - 1 < vs.length := by
      have := List.length_pos_iff.mpr hne
      omega
    refine ⟨_, h1, .inl ⟨rfl, _, SqL.of h2⟩, a, vs, vs[vs.length - 1], rfl, rfl, h2, by simp [hlt], ?_⟩
    exact q _ sd G _ (f.write (ownAt_eq e1) h1 h4.dropLast) (Same.refl _)
end
/-! ### the drawing source -/
section
variable {X : Cx} {pos : Pos}
theorem ps_gSset {o e : Expr} {i : Nat} {g : SF} {φ : Ph} {p1 p2 : Pos} {kk : Nat} (hu : X.A.units + 1 < cLine) (ho : PE X o (tVar i)) (he : PE X e (rd X.K φ)) (hs : swapsWith e (some (.Subscript o (.Constant (.str g.nm) kk p2) p1)) pos.line X.env = pure false) :
    PS X (.Assign [.Subscript o (.Constant (.str g.nm) kk p2) p1] e pos) (rdS X.K (gSset i g (fInt φ))) := PSimp (ps_dput hu ho pe_str (toRead he) hs) fun D σ H ⟨S0, sd0, G0, H0, st, sd, G, o, st', f, e, q⟩ => by
  obtain ⟨⟨k, st1⟩, e1, e2⟩ := bind_some e
  obtain ⟨s, e3, e4⟩ := map_some e2
  cases e4
  obtain ⟨e5, e6⟩ := srcAt_eq e3
  refine ⟨st, sd, G, _, st1, f.rel, fInt_of e1, fun v sd1 G1 H1 p1 k1 => ?_⟩
  have f1 := f.post p1
  obtain ⟨j1, _⟩ := f1.rel.sl i _ e5
  obtain ⟨j2, g1, g2, g3⟩ := f1.rel.src s e6
  obtain rfl := k1.int
  refine ⟨_, j1, _, _, rfl, src_put j2 g k, ?_⟩
  refine q _ sd1 G1 _ (f1.srcW (H' := upd H1 sd1.1 (.dK (srcFs sd1.2 (g.put s k)))) e6 ⟨upd_same, ?_⟩ fun a h1 h2 => upd_ne h1) p1.ext
  rw [upd_ne g3.symm]
  have : (g.put s k).cells = s.cells := by cases g <;> rfl
  rw [this]
  exact j2.2
theorem pop_last {s s' : Src} (h : popS s = some s') : (s.cells.map V.int)[(s.cells.map V.int).length - 1]? = some (.int s'.left) ∧ s'.cells.map V.int = (s.cells.map V.int).dropLast ∧ s' = SF.left.put { s with cells := s'.cells } s'.left := by
  unfold popS at h
  split at h
  · cases h
  · rename_i hz
    cases h
    refine ⟨?_, by simp [List.map_dropLast], rfl⟩
    rw [List.getElem?_map, List.length_map]
    have : s.cells.getLastD 0 = s.cells.getLast hz := by simp [List.getLastD_eq_getLast?, List.getLast?_eq_some_getLast hz]
    rw [this, ← List.getLast?_eq_getElem?, List.getLast?_eq_some_getLast hz]
    rfl
theorem pop_fin {K : PySem.W.Frag} {S0 : Option Src} {sd0 sd : Addr × Addr} {G0 H0 G H : Hp} {st : Stt} {σ : List (Option V)} {s s' : Src} (f : FI K S0 sd0 G0 H0 st sd G σ H) (hs : st.S = some s) (h : popS s = some s') :
    DPut (upd H sd.2 (.lst (s.cells.map V.int).dropLast)) sd.1 (.str "left") (.int s'.left) (upd (upd H sd.2 (.lst (s.cells.map V.int).dropLast)) sd.1 (.dK (srcFs sd.2 s'))) ∧
    FI K S0 sd0 G0 H0 { st with S := some s' } sd G σ (upd (upd H sd.2 (.lst (s.cells.map V.int).dropLast)) sd.1 (.dK (srcFs sd.2 s'))) := by
  obtain ⟨j2, g1, g2, g3⟩ := f.rel.src s hs
  obtain ⟨_, h2, h3⟩ := pop_last h
  constructor
  · have a : SrcAt (upd H sd.2 (.lst (s.cells.map V.int).dropLast)) sd { s with cells := s'.cells } := ⟨by rw [upd_ne g3]; exact j2.1, by rw [upd_same, h2]⟩
    have := src_put a .left s'.left
    rw [← h3] at this
    exact this
  · exact f.srcW hs ⟨upd_same, by rw [upd_ne g3.symm, upd_same, h2]⟩ fun a h1 h2 => by rw [upd_ne h1, upd_ne h2]
theorem ps_gSpop {o o' : Expr} {i : Nat} {p1 p2 p3 p4 ap cp : Pos} {kk k2 : Nat} (hu : X.A.units + 1 < cLine) (ho : PE X o (tVar i)) (ho' : PE X o' (tVar i))
    (hb : attributeBase (.Subscript o' (.Constant (.str "cells") k2 p4) p3) ("pop" : Str) X.env (eval (.Subscript o' (.Constant (.str "cells") k2 p4) p3) X.env) = eval (.Subscript o' (.Constant (.str "cells") k2 p4) p3) X.env) (hl : (ap.endLine == cp.line) = true) :
    PS X (.Assign [.Subscript o (.Constant (.str "left") kk p2) p1] (.Call (.Attribute (.Subscript o' (.Constant (.str "cells") k2 p4) p3) ("pop" : Str) ap) [] [] cp) pos) (rdS X.K (gSpop i)) := by
  refine PSimp (ps_dput hu ho pe_str (pe_bm0 PySem.F.plainAttrs_list PySem.F.slot_list_pop PySem.F.type_list_pop (fun pins s σ H x xs v us Q I rx rv h => mt_pop pins s σ H x xs v us Q I rx rv h) (pe_dget hu ho' pe_str (fun _ _ => rfl)) hb hl) rfl) fun D σ H ⟨S0, sd0, G0, H0, st, sd, G, o, st', f, e, q⟩ => ?_
  obtain ⟨s, e1, e2⟩ := bind_some e
  obtain ⟨s', e3, e4⟩ := map_some e2
  cases e4
  obtain ⟨e5, e6⟩ := srcAt_eq e1
  obtain ⟨j1, _⟩ := f.rel.sl i _ e5
  obtain ⟨j2, g1, g2, g3⟩ := f.rel.src s e6
  obtain ⟨h1, _, _⟩ := pop_last e3
  obtain ⟨d1, f1⟩ := pop_fin f e6 e3
  exact ⟨_, j1, _, _, rfl, src_cells j2, .inl ⟨rfl, _, SqL.of j2.2⟩, _, _, _, rfl, rfl, j2.2, h1, _, j1, _, _, rfl, d1, q _ sd G _ f1 (Same.refl _)⟩
theorem ps_gCpop {o o' : Expr} {i j : Nat} {p1 p2 ap cp : Pos} {kk : Nat} (hu : X.A.units + 1 < cLine) (ho : PE X o (tVar i)) (ho' : PE X o' (tVar j)) (hb : attributeBase o' ("pop" : Str) X.env (eval o' X.env) = eval o' X.env) (hl : (ap.endLine == cp.line) = true) :
    PS X (.Assign [.Subscript o (.Constant (.str "left") kk p2) p1] (.Call (.Attribute o' ("pop" : Str) ap) [] [] cp) pos) (rdS X.K (gCpop i j)) := by
  refine PSimp (ps_dput hu ho pe_str (pe_bm0 PySem.F.plainAttrs_list PySem.F.slot_list_pop PySem.F.type_list_pop (fun pins s σ H x xs v us Q I rx rv h => mt_pop pins s σ H x xs v us Q I rx rv h) ho' hb hl) rfl) fun D σ H ⟨S0, sd0, G0, H0, st, sd, G, o, st', f, e, q⟩ => ?_
  obtain ⟨s0, e1, e2⟩ := bind_some e
  obtain ⟨s, e3, e4⟩ := bind_some e2
  obtain ⟨s', e5, e6⟩ := map_some e4
  cases e6
  obtain ⟨e7, _⟩ := srcAt_eq e1
  obtain ⟨e8, e9⟩ := celAt_eq e3
  obtain ⟨j1, _⟩ := f.rel.sl i _ e7
  obtain ⟨j3, _⟩ := f.rel.sl j _ e8
  obtain ⟨j2, g1, g2, g3⟩ := f.rel.src s e9
  obtain ⟨h1, _, _⟩ := pop_last e5
  obtain ⟨d1, f1⟩ := pop_fin f e9 e5
  exact ⟨_, j3, .inl ⟨rfl, _, SqL.of j2.2⟩, _, _, _, rfl, rfl, j2.2, h1, _, j1, _, _, rfl, d1, q _ sd G _ f1 (Same.refl _)⟩
theorem ps_gScel {e : Expr} {i j : Nat} {tg : Expr} (h : ∀ {te : TE}, PE X e te → PS X (.Assign [tg] e pos) (tAsg te (gName j))) (he : PE X e (tDGet (tVar i) (tC (.str "cells")))) : PS X (.Assign [tg] e pos) (rdS X.K (gScel j i)) := PSimp (h he) fun D σ H ⟨S0, sd0, G0, H0, st, sd, G, o, st', f, e, q⟩ => by
  obtain ⟨s, e1, e2⟩ := map_some e
  cases e2
  obtain ⟨e3, e4⟩ := srcAt_eq e1
  obtain ⟨j1, _⟩ := f.rel.sl i _ e3
  obtain ⟨j2, g1, g2, g3⟩ := f.rel.src s e4
  refine ⟨_, j1, _, _, rfl, src_cells j2, q _ sd G H (f.slots (γ' := st.γ.set j .cel) (σ' := σ.set j (some (.ref sd.2))) (f.rel.setC j (by rw [e4]; simp)) fun a ds b z1 z2 => ?_) (Same.refl _)⟩
  by_cases hj : j = a
  · subst hj
    by_cases hl : j < st.γ.length
    · rw [List.getElem?_set_self hl] at z1; cases z1
    · rw [List.getElem?_eq_none (by simpa using hl)] at z1; cases z1
  · rw [List.getElem?_set_ne hj] at z1 z2
    exact f.own a ds b z1 z2
theorem ps_gRsrc {a b c d : Expr} {φ1 φ2 φ3 φ4 : Ph} {pd q1 q2 q3 q4 : Pos} {k1 k2 k3 k4 : Nat} (h1 : PE X a (rd X.K φ1)) (h2 : PE X b (rd X.K φ2)) (h3 : PE X c (rd X.K φ3)) (h4 : PE X d (rd X.K φ4)) :
    PS X (.Return (some (.Dict [some (.Constant (.str "cells") k1 q1), some (.Constant (.str "left") k2 q2), some (.Constant (.str "mixed") k3 q3), some (.Constant (.str "turn") k4 q4)] [a, b, c, d] pd)) pos) (rdS X.K (gRsrc (fK φ1) (fInt φ2) (fInt φ3) (fInt φ4))) := by
  refine PSimp (ps_ret (pe_disp (pps_cons pe_str (toKept h1) (pps_cons pe_str (toRead h2) (pps_cons pe_str (toRead h3) (pps_cons pe_str (toRead h4) pps_nil)))) rfl rfl (by simp) (by show 4 ≤ 15; decide))) fun D σ H ⟨S0, sd0, G0, H0, st, sd, G, o, st', f, e, q⟩ => ?_
  obtain ⟨⟨r1, st1⟩, e1, ea⟩ := bind_some e
  obtain ⟨⟨i2, st2⟩, e2, eb⟩ := bind_some ea
  obtain ⟨⟨i3, st3⟩, e3, ec⟩ := bind_some eb
  obtain ⟨⟨i4, st4⟩, e4, ed⟩ := bind_some ec
  clear e ea eb ec
  dsimp only at ed
  split at ed
  · rename_i ds hs
    obtain ⟨cs, e5, e6⟩ := map_some ed
    cases e6
    intro p hp
    have f0 := f.post (f.rel.postN (o := .dK []) hp)
    have hGp : G p = none := f.rel.noneG hp
    refine ⟨st, sd, G, _, st1, f0.rel, e1, fun v1 sd1 G1 H1 p1 j1 nb => ⟨st1, sd1, G1, _, st2, p1.rel, fInt_of e2, fun v2 sd2 G2 H2 p2 j2 => ⟨st2, sd2, G2, _, st3, p2.rel, fInt_of e3, fun v3 sd3 G3 H3 p3 j3 => ⟨st3, sd3, G3, _, st4, p3.rel, fInt_of e4, fun v4 sd4 G4 H4 p4 j4 => ?_⟩⟩⟩⟩
    obtain rfl := j2.int
    obtain rfl := j3.int
    obtain rfl := j4.int
    obtain ⟨a, vs, rfl, m1, m2, m3, m4, m5⟩ := j1
    have p14 := (p2.trans p3).trans p4
    have pa := p1.trans p14
    have hS : st.S = none := by
      cases z : st.S with
      | none => rfl
      | some s => exact absurd hs (pa.sdk (by rw [z]; simp)).1
    have hne : p ≠ a := fun z => by rw [← z, upd_same] at m4; cases m4
    have kp : H4 p = some (.dK []) := pa.keep p _ upd_same fun z => absurd hS z
    have ka : H4 a = some (.lst vs) := p14.keep a _ m1 m5
    have own : ∀ (i : Nat) (ds : List PyData) (b : Addr), st4.γ[i]? = some (.own ds) → σ[i]? = some (some (.ref b)) → b ≠ p ∧ b ≠ a := fun i ds b z1 z2 => by
      obtain ⟨_, ws, z3⟩ := pa.owned f0.rel z1 z2
      exact ⟨fun z => by (rw [z, upd_same] at z3; cases z3), fun z => by (rw [z, m4] at z3; cases z3)⟩
    have gp : G4 p = none := by
      cases z : G4 p with
      | none => rfl
      | some o =>
        exfalso
        rcases pa.dom p hGp (by rw [z]; simp) with w | ⟨i, es, w1, w2⟩
        · rw [upd_same] at w; cases w
        · obtain ⟨b, ws, w3, w4, _⟩ := f0.rel.sl i _ w1
          rw [w2] at w3; cases w3
          rw [upd_same] at w4; cases w4
    have ga : G4 a = none := by
      cases z : G4 a with
      | none => rfl
      | some o =>
        exfalso
        rcases p14.dom a m3 (by rw [z]; simp) with w | ⟨i, es, w1, w2⟩
        · rw [m1] at w; cases w
        · obtain ⟨_, ws, w3⟩ := p1.owned f0.rel w1 w2
          rw [m4] at w3; cases w3
    obtain rfl := m2.ints e5
    refine ⟨kp, srcFs a ⟨cs, i2, i3, i4⟩, rfl, by show 4 ≤ 15; decide, ?_⟩
    have f4 := f0.post pa
    exact q _ σ (p, a) G4 _ (f4.srcN (H' := upd H4 p (.dK (srcFs a ⟨cs, i2, i3, i4⟩))) hs ⟨upd_same, by rw [upd_ne hne.symm]; exact ka⟩ (fun b hb => upd_ne hb) (f.noneB hp) gp (f0.noneB m4) ga hne
      fun i ds z1 => ⟨fun z2 => (own i ds p z1 z2).1 rfl, fun z2 => (own i ds a z1 z2).2 rfl⟩) pa.ext ⟨rfl, by simp⟩
  · cases ed
end
/-! ### what the compiler makes of a pair of stores -/
theorem swR_ok {x : Ctx} {ts : List Expr} {e : Expr} {r : Option (List Str)} {env : Env} {k : Nat} {p : Pos} (h : swR x ts e = some r) (hs : env.scope = x.sc) (hk : env.blockKind = .function) : swappedStores [.Tuple ts k p] e env = pure r := by
  unfold swR at h
  split at h
  · rename_i vs kv pv
    have e0 : ∀ f : Expr → Bool, (∀ y, f y = isStar y) → vs.any f = vs.any isStar := fun f hf => by rw [funext hf]
    have en : ∀ (line : Nat) (f : Expr → Option Str), (∀ y, f y = (match y with | .Name id pos => if x.sc.names.lookup id == some .local && pos.line == line then some id else none | _ => none)) → ts.filterMap f = swNames x line ts := fun line f hf => by
      unfold swNames
      congr 1
      funext y
      rw [hf y]
      all_goals (cases y <;> rfl)
    have hl : (ts.head?.map fun y => y.pos.line).getD 0 = (ts.head?.map (·.pos.line)).getD 0 := rfl
    unfold swappedStores
    dsimp only
    rw [e0 _ (fun y => by cases y <;> rfl), en ((ts.head?.map (·.pos.line)).getD 0) _ (fun y => by unfold Env.kindOf; rw [hs]; cases y <;> rfl), hk]
    generalize swNames x ((ts.head?.map (·.pos.line)).getD 0) ts = nm at h ⊢
    simp only [bne_self_eq_false, Bool.or_false]
    split at h
    · rename_i c; cases h; rw [if_pos c]
    · rename_i c
      rw [if_neg c]
      split at h
      · rename_i c1; cases h
        show (if vs.any isStar = true then _ else _) = _
        rw [if_pos c1]
      · rename_i c1
        show (if vs.any isStar = true then _ else _) = _
        rw [if_neg c1]
        split at h
        · rename_i c2; cases h
          show (if _ then _ else _) = _
          rw [if_pos c2]
        · rename_i c2
          show (if _ then _ else _) = _
          rw [if_neg c2]
          split at h
          · rename_i c3; cases h
            show (if _ then _ else _) = _
            rw [if_pos c3]
          · rename_i c3
            show (if _ then _ else _) = _
            rw [if_neg c3]
            split at h
            · cases h
            · rename_i c4; cases h
              show (if _ then _ else _) = _
              rw [if_neg c4]
  · rename_i he
    cases h
    unfold swappedStores
    cases e <;> first | rfl | (exact absurd rfl (he _ _ _))
end DE

set_option Elab.async false
set_option linter.all false
set_option maxRecDepth 100000
set_option maxHeartbeats 4000000
set_option autoImplicit false
/-! The soundness of the language's statements and defs. -/
namespace DE
open PySem PySem.Spec PyProof.Rows L2

section
variable {Φ : Nat → Fn} {C : Nat → D} {n k : Nat}
theorem okKs : ∀ (cs : List Ex) {x : Ctx} {X : Cx} {es : List Expr}, Fits X k x Φ C → chkEs x cs es = true → PA X es (rdKs X.K (fKs (cs.map (ev Φ C)))) ∧ (∀ e ∈ es, isStar e = false) ∧ es.length = cs.length
  | [], x, X, es, f, h => by
    simp only [chkEs, List.isEmpty_iff] at h
    subst h
    exact ⟨kept_nil, by simp, rfl⟩
  | c :: cs, x, X, es, f, h => by
    simp only [chkEs] at h
    split at h
    · simp only [Bool.and_eq_true] at h
      have s := okE c f h.1
      obtain ⟨q, ns, hl⟩ := okKs cs f h.2
      exact ⟨PAimp (pa_cons (toKept s.pe) q (star1 s.ns)) fun σ H Q q => kept_cons q, by simpa using ⟨s.ns, ns⟩, by simp [hl]⟩
    · cases h
theorem blk_fn {env : Env} (h : env.scope.kind = .function) : env.blockKind = .function := by unfold Env.blockKind; rw [h]; rfl
/-- name = [..] -/
theorem set_lc {own : List Nat} {tg : Tg} {it : EI} {cond elt : Ex} {x : Ctx} {X : Cx} {e : Expr} (f : Fits X k x Φ C) (h : chkE x (.lc own tg it cond elt) e = true) {i : Nat} {y : Str} {py spos : Pos} (hy : X.N[i]? = some y) (hyl : X.env.scope.names.lookup y = some .local)
    (hsw : swapsWith e (some (.Name y py)) spos.line X.env = pure true) : PS X (.Assign [.Name y py] e spos) (rdS X.K (gPar [i] (fKs [ev Φ C (.lc own tg it cond elt)]))) := by
  simp only [chkE] at h
  split at h
  · rename_i elt' tg' iter ifs scope pp
    simp only [Bool.and_eq_true] at h
    obtain ⟨⟨⟨⟨⟨h1, h2⟩, h3⟩, h4⟩, h5⟩, h6⟩ := h
    have hown : (own.map fun i => (x.N.getD i Str.empty, i)).map (·.2) = own := by simp [List.map_map, Function.comp_def]
    have hsl : ∀ i ∈ tg.slots, i ∈ own := fun i hi => by
      have := List.all_eq_true.mp h3 i hi
      simpa using this
    have ok : BlkOk X.N X.env.scope scope (own.map fun i => (x.N.getD i Str.empty, i)) := by
      rw [f.N, f.sc]; exact blkOk_by h1
    have hfold : ∀ v, foldedSetIterable iter X.env v = pure v := fun v => by
      have := okI_noSet it h4
      cases iter <;> first | rfl | (exact absurd this (by simp [isSetD]))
    have tests : ∀ (s : Shared) (H : Hp) (Ca : Addr) (cl : List (Str × Addr)) (fp : List Addr), PTs (X.blk s H scope (compEnvC scope cl Ca X.env) fp) ifs (rdT X.K (fT (ev Φ C cond))) := fun s H Ca cl fp => by
      cases ifs with
      | nil =>
        cases cond with
        | yes =>
          refine ⟨fun pins s σ H Q I q => pts_nil.run pins s σ H Q I ?_⟩
          obtain ⟨st, sd, G, b, st', rel, e, q⟩ := q
          simp only [fT, fP, ev, Option.bind_some, pk, Option.map_some, Option.some.injEq, Prod.mk.injEq] at e
          obtain ⟨rfl, rfl⟩ := e
          exact q sd G H (.refl rel)
        | _ => simp at h5
      | cons c r =>
        cases r with
        | nil => exact pts_one (okE cond (f.blk s H scope cl Ca fp) h5).pt
        | cons a b => simp at h5
    have q := ps_setLc (pos := pp) (spos := spos) f.cond.calm f.cond.nd hy hyl hsw (okI it f h4) ok (g := gOf X.K tg) (fun s H Ca cl fp => (okT tg (f.blk s H scope cl Ca fp) h2).1) tests
      (te := rdV X.K (fV (ev Φ C elt))) (fun s H Ca cl fp => toVal (okE elt (f.blk s H scope cl Ca fp) h6).pe) hfold
    rw [hown] at q
    exact PSimp q fun D σ H q => lc_read hsl (rdK_rd (gAsg_lc q))
  · cases h
theorem notLc {c : Ex} {x : Ctx} {e : Expr} (h : chkE x c e = true) : (∃ own tg it cond elt, c = .lc own tg it cond elt) ∨ ∀ t l env, swapsWith e t l env = pure false := by
  cases e with
  | ListComp elt gs scope pos =>
    cases c <;> first | (simp [chkE] at h; done) | exact .inl ⟨_, _, _, _, _, rfl⟩
  | SetComp elt gs scope pos => cases c <;> simp [chkE] at h
  | DictComp elt v gs scope pos => cases c <;> simp [chkE] at h
  | _ => exact .inr fun _ _ _ => rfl
theorem sw_cases {e : Expr} {y : Str} {py : Pos} {l : Nat} {env : Env} (hk : env.blockKind = .function) : swapsWith e (some (.Name y py)) l env = pure false ∨ (swapsWith e (some (.Name y py)) l env = pure true ∧ env.scope.names.lookup y = some .local) := by
  have key : ∀ (scope : Scope) (ln : Nat), ((pure (env.blockKind == .function && env.kindOf y == some .local && py.line == ln && !(scope.names.any fun (n, k) => n == y && (k == .local || k == .cell))) : Sem Bool) = pure false) ∨ (((pure (env.blockKind == .function && env.kindOf y == some .local && py.line == ln && !(scope.names.any fun (n, k) => n == y && (k == .local || k == .cell))) : Sem Bool) = pure true) ∧ env.scope.names.lookup y = some .local) := fun scope ln => by
    generalize hb : (env.blockKind == .function && env.kindOf y == some .local && py.line == ln && !(scope.names.any fun (n, k) => n == y && (k == .local || k == .cell))) = b
    cases b with
    | false => exact .inl rfl
    | true =>
      refine .inr ⟨rfl, ?_⟩
      simp only [Bool.and_eq_true, beq_iff_eq] at hb
      exact hb.1.1.2
  cases e with
  | ListComp elt gs scope pos => exact key scope _
  | SetComp elt gs scope pos => exact key scope _
  | DictComp elt v gs scope pos => exact key scope _
  | _ => exact .inl rfl
theorem fnOf {x : Ctx} {X : Cx} (f : FitS X k x Φ C) (m : Str) : X.fn m = true := f.fit.fn m (by unfold Ctx.fnB; rw [f.fnr])
theorem okS_asg {i : Nat} {c : Ex} : OkS Φ C n k (.asg i c) := by
  intro x X s f h
  simp only [chkS] at h
  split at h
  · rename_i y py e' sp
    unfold varS at h
    simp only [Bool.and_eq_true, decide_eq_true_eq] at h
    obtain ⟨⟨⟨h1, h2⟩, h3⟩, h4⟩ := h
    have hi : X.N[i]? = some y := by rw [f.fit.N]; exact h1
    have hx : Loc X.env.scope y := by rw [f.fit.sc]; exact locOf h2
    have plain : swapsWith e' (some (.Name y py)) sp.line X.env = pure false → PS X (.Assign [.Name y py] e' sp) (rdS X.K (exS Φ C n (.asg i c))) := fun hs =>
      ps_gAsg (fun he => ps_set f.fit.cond.nd hi hx he hs (.inl (fnOf f y))) (okE c f.fit h4).pe
    rcases notLc h4 with ⟨own, tg, it, cond, elt, rfl⟩ | hn
    · rcases sw_cases (e := e') (y := y) (py := py) (l := sp.line) (blk_fn f.kind) with z | ⟨z, zl⟩
      · exact plain z
      · exact set_lc f.fit h4 hi zl z
    · exact plain (hn _ _ _)
  · cases h
theorem okS_asgT {tg : Tg} {c : Ex} : OkS Φ C n k (.asgT tg c) := by
  intro x X s f h
  simp only [chkS] at h
  split at h
  · rename_i ts kt pt e' sp
    simp only [Bool.and_eq_true, decide_eq_true_eq] at h
    obtain ⟨⟨h1, h2⟩, h3⟩ := h
    exact ps_gAsgT (okT tg f.fit h1).1 (okE c f.fit h2).pe (by cases e' <;> rfl) (swR_ok h3 f.fit.sc (blk_fn f.kind)) rfl
  · cases h
theorem okS_par {is : List Nat} {cs : List Ex} : OkS Φ C n k (.par is cs) := by
  intro x X s f h
  simp only [chkS] at h
  split at h
  · rename_i ts kt pt vs kv pv sp
    simp only [Bool.and_eq_true] at h
    obtain ⟨h1, h2⟩ := h
    obtain ⟨q, ns, hl⟩ := okKs cs f.fit h1
    have loc : ∀ {y : Str}, loc1 x y = true → X.env.scope.names.lookup y = some .local := fun {y} h => by
      unfold loc1 at h
      rw [f.fit.sc]; simpa using h
    unfold swYes at h2
    split at h2
    · rename_i i j a pa b pb
      simp only [Bool.and_eq_true, decide_eq_true_eq] at h2
      obtain ⟨⟨⟨⟨⟨h3, h4⟩, h5⟩, h6⟩, h7⟩, h8⟩ := h2
      have hl2 : vs.length = 2 := by
        have e1 := h8
        unfold swR at e1
        dsimp only at e1
        split at e1
        · cases e1
        · rename_i c
          simp at c
          exact c
      match vs, hl2 with
      | [e1, e2], _ =>
        exact PSimp (ps_par f.fit.cond.calm f.fit.cond.nd (by rw [f.fit.N]; exact h3) (by rw [f.fit.N]; exact h4) h5 (loc h6) (loc h7) q (swR_ok h8 f.fit.sc (blk_fn f.kind))) fun D σ H q =>
          par2 (fun st rs st' e => by rw [fKs_len _ _ _ _ e, List.length_map, ← hl]; rfl) q
    · rename_i i j l a pa b pb c pc
      simp only [Bool.and_eq_true, decide_eq_true_eq] at h2
      obtain ⟨⟨⟨⟨⟨⟨⟨⟨⟨h3, h4⟩, h5⟩, h6⟩, h7⟩, h8⟩, h9⟩, h10⟩, h11⟩, h12⟩ := h2
      have hl2 : vs.length = 3 := by
        have e1 := h12
        unfold swR at e1
        dsimp only at e1
        split at e1
        · cases e1
        · rename_i c
          simp at c
          exact c
      match vs, hl2 with
      | [e1, e2, e3], _ =>
        exact PSimp (ps_par3 f.fit.cond.calm f.fit.cond.nd (by rw [f.fit.N]; exact h3) (by rw [f.fit.N]; exact h4) (by rw [f.fit.N]; exact h5) h6 h7 h8 (loc h9) (loc h10) (loc h11) q (swR_ok h12 f.fit.sc (blk_fn f.kind))) fun D σ H q =>
          par3 (fun st rs st' e => by rw [fKs_len _ _ _ _ e, List.length_map, ← hl]; rfl) q
    · cases h2
  · cases h
theorem okS_setI {i : Nat} {ix c : Ex} : OkS Φ C n k (.setI i ix c) := by
  intro x X s f h
  simp only [chkS] at h
  split at h
  · rename_i y py ix' ps e' sp
    simp only [Bool.and_eq_true] at h
    obtain ⟨⟨h1, h2⟩, h3⟩ := h
    refine ps_gSetI (varOf f.fit h1) (okE ix f.fit h2).pe (okE c f.fit h3).pe (fun v => ?_) (by cases e' <;> rfl) (by cases e' <;> rfl)
    have := okE_noSlice ix h2
    cases ix' <;> first | rfl | (exact absurd this (by simp [isSlice]))
  · cases h
theorem okS_app {i : Nat} {c : Ex} : OkS Φ C n k (.app i c) := by
  intro x X s f h
  simp only [chkS] at h
  split at h
  · rename_i y py m ap e' cp sp
    simp only [Bool.and_eq_true, beq_iff_eq] at h
    obtain ⟨⟨⟨h1, rfl⟩, h3⟩, h4⟩ := h
    have s4 := okE c f.fit h4
    exact ps_gApp (varOf f.fit h1) s4.pe rfl (by simpa using h3) s4.ns
  · cases h
theorem okS_ext {i : Nat} {c : Ex} : OkS Φ C n k (.ext i c) := by
  intro x X s f h
  simp only [chkS] at h
  split at h
  · rename_i y py m ap e' cp sp
    simp only [Bool.and_eq_true, beq_iff_eq] at h
    obtain ⟨⟨⟨h1, rfl⟩, h3⟩, h4⟩ := h
    have s4 := okE c f.fit h4
    exact ps_gExt (varOf f.fit h1) s4.pe rfl (by simpa using h3) s4.ns
  · cases h
theorem okS_pop {i : Nat} : OkS Φ C n k (.pop i) := by
  intro x X s f h
  simp only [chkS] at h
  split at h
  · rename_i y py m ap cp sp
    simp only [Bool.and_eq_true, beq_iff_eq] at h
    obtain ⟨⟨h1, rfl⟩, h3⟩ := h
    exact ps_gPop (varOf f.fit h1) rfl (by simpa using h3)
  · cases h
theorem okS_ret {c : Ex} : OkS Φ C n k (.ret c) := by
  intro x X s f h
  simp only [chkS] at h
  split at h
  · exact ps_gRet (okE c f.fit h).pe
  · cases h
theorem okS_retN : OkS Φ C n k .retN := by
  intro x X s f h
  simp only [chkS] at h
  split at h
  · exact ps_gRetN
  · cases h
theorem okS_sset {i : Nat} {g : SF} {c : Ex} : OkS Φ C n k (.sset i g c) := by
  intro x X s f h
  simp only [chkS] at h
  split at h
  · simp only [Bool.and_eq_true, decide_eq_true_eq] at h
    obtain ⟨⟨h1, rfl⟩, h3⟩ := h
    rename_i e' _
    exact ps_gSset (units1 f.fit.cond.room) (varOf f.fit h1) (okE c f.fit h3).pe (by cases e' <;> rfl)
  · cases h
theorem okS_spop {i : Nat} : OkS Φ C n k (.spop i) := by
  intro x X s f h
  simp only [chkS] at h
  split at h
  · simp only [Bool.and_eq_true, decide_eq_true_eq, beq_iff_eq] at h
    obtain ⟨⟨⟨⟨⟨h1, rfl⟩, h3⟩, rfl⟩, rfl⟩, h6⟩ := h
    exact ps_gSpop (units1 f.fit.cond.room) (varOf f.fit h1) (varOf f.fit h3) rfl (by simpa using h6)
  · cases h
theorem okS_cpop {i j : Nat} : OkS Φ C n k (.cpop i j) := by
  intro x X s f h
  simp only [chkS] at h
  split at h
  · simp only [Bool.and_eq_true, decide_eq_true_eq, beq_iff_eq] at h
    obtain ⟨⟨⟨⟨h1, rfl⟩, h3⟩, rfl⟩, h6⟩ := h
    exact ps_gCpop (units1 f.fit.cond.room) (varOf f.fit h1) (varOf f.fit h3) rfl (by simpa using h6)
  · cases h
theorem okS_scel {j i : Nat} : OkS Φ C n k (.scel j i) := by
  intro x X s f h
  simp only [chkS] at h
  split at h
  · simp only [Bool.and_eq_true, decide_eq_true_eq] at h
    obtain ⟨⟨h0, h1⟩, rfl⟩ := h
    unfold varS at h0
    simp only [Bool.and_eq_true, decide_eq_true_eq] at h0
    obtain ⟨⟨h2, h3⟩, h4⟩ := h0
    rename_i y py e' n' k' pp sp
    refine ps_gScel (fun {te} he => ps_set f.fit.cond.nd (by rw [f.fit.N]; exact h2) (by rw [f.fit.sc]; exact locOf h3) he rfl (.inl (fnOf f _))) (pe_dget (units1 f.fit.cond.room) (varOf f.fit h1) pe_str (fun _ _ => rfl))
  · cases h
theorem okS_rsrc {c l m t : Ex} : OkS Φ C n k (.rsrc c l m t) := by
  intro x X s f h
  simp only [chkS] at h
  split at h
  · simp only [Bool.and_eq_true, decide_eq_true_eq] at h
    obtain ⟨⟨⟨⟨⟨⟨⟨rfl, rfl⟩, rfl⟩, rfl⟩, h5⟩, h6⟩, h7⟩, h8⟩ := h
    exact ps_gRsrc (okE c f.fit h5).pe (okE l f.fit h6).pe (okE m f.fit h7).pe (okE t f.fit h8).pe
  · cases h
mutual
theorem okS : ∀ (c : Stm) {x : Ctx} {X : Cx} {s : Stmt}, FitS X k x Φ C → chkS x c s = true → PS X s (rdS X.K (exS Φ C n c))
  | .asg i e, x, X, s, f, h => okS_asg f h
  | .asgT tg e, x, X, s, f, h => okS_asgT f h
  | .par is es, x, X, s, f, h => okS_par f h
  | .setI i ix e, x, X, s, f, h => okS_setI f h
  | .app i e, x, X, s, f, h => okS_app f h
  | .ext i e, x, X, s, f, h => okS_ext f h
  | .pop i, x, X, s, f, h => okS_pop f h
  | .ret e, x, X, s, f, h => okS_ret f h
  | .retN, x, X, s, f, h => okS_retN f h
  | .ifS c a b, x, X, s, f, h => by
    simp only [chkS] at h
    split at h
    · simp only [Bool.and_eq_true] at h
      exact ps_gIf (okE c f.fit h.1.1).pt (okB a f h.1.2) (okB b f h.2)
    · cases h
  | .whl c b, x, X, s, f, h => by
    simp only [chkS] at h
    split at h
    · simp only [Bool.and_eq_true] at h
      exact ps_gWhile f.passes (okE c f.fit h.1).pt (okB b f h.2)
    · cases h
  | .forS tg it b, x, X, s, f, h => by
    simp only [chkS] at h
    split at h
    · simp only [Bool.and_eq_true] at h
      refine ps_gFor f.passes f.fit.cond.calm (okI it f.fit h.1.2) (okT tg f.fit h.1.1).1 (okB b f h.2) fun v => ?_
      rename_i tg' it' b' p
      have := okI_noSet it h.1.2
      cases it' <;> first | rfl | (exact absurd this (by simp [isSetD]))
    · cases h
  | .brk, x, X, s, f, h => by
    simp only [chkS] at h
    split at h
    · exact ps_gBrk
    · cases h
  | .cont, x, X, s, f, h => by
    simp only [chkS] at h
    split at h
    · exact ps_gCont
    · cases h
  | .pass, x, X, s, f, h => by
    simp only [chkS] at h
    split at h
    · exact ps_gPass
    · cases h
  | .sset i g e, x, X, s, f, h => okS_sset f h
  | .spop i, x, X, s, f, h => okS_spop f h
  | .cpop i j, x, X, s, f, h => okS_cpop f h
  | .scel j i, x, X, s, f, h => okS_scel f h
  | .rsrc c l m t, x, X, s, f, h => okS_rsrc f h
theorem okB : ∀ (c : List Stm) {x : Ctx} {X : Cx} {s : List Stmt}, FitS X k x Φ C → chkB x c s = true → PSs X s (rdS X.K (exB Φ C n c))
  | [], x, X, s, f, h => by
    simp only [chkB, List.isEmpty_iff] at h
    subst h
    exact pss_gNil
  | a :: r, x, X, s, f, h => by
    simp only [chkB] at h
    split at h
    · simp only [Bool.and_eq_true] at h
      exact pss_gSeq (okS a f h.1) (okB r f h.2)
    · cases h
end
end
end DE

set_option Elab.async false
set_option linter.all false
set_option maxRecDepth 100000
set_option maxHeartbeats 4000000
set_option autoImplicit false
/-! A def whose body the language describes keeps its promise. -/
namespace DE
open PySem PySem.Spec PyProof.Rows L2

/-- what a module's globals are to be -/
structure Glob (P : Program) (w : World) (K : PySem.W.Frag) (mg : Str → Option Value) (base : Heap) (k : Nat) (cx : Ctx) (Φ : Nat → Fn) (C : Nat → D) : Prop where
  blt : ∀ x ∈ bltNames, mg x = none
  fns : ∀ x i, cx.fns.lookup x = some i → ∃ n, (∀ args S r, Φ i args S = some r → args.length = n) ∧ CalG P w K mg base k x (spF K n (Φ i))
  cst : ∀ x i, cx.cs.lookup x = some i → ∃ v u, mg x = some u ∧ RelV v u ∧ ∀ G, En K G v (C i)
  gcd : cx.gcd = true → mg "gcd" = some (.builtin "math.gcd")

theorem rel_start {K : PySem.W.Frag} {S : Option Src} {sd : Addr × Addr} {G H : Hp} {vs : List V} {args : List A} {N : List Str} {np : Nat} (r : Rel K ⟨[], S⟩ sd G [] H) (h : Paired (fun v a => ARel K S sd G a v) vs args) (hn : args.length = np) (hN : np ≤ N.length) :
    Rel K ⟨args.map slA ++ List.replicate (N.length - np) .un, S⟩ sd G (start N vs) H := by
  have hl : vs.length = args.length := h.length
  have get : ∀ {vs : List V} {args : List A}, Paired (fun v a => ARel K S sd G a v) vs args → ∀ (i : Nat) (a : A), args[i]? = some a → ∃ v, vs[i]? = some v ∧ ARel K S sd G a v := by
    intro vs args h
    induction h with
    | nil => intro i a e; simp at e
    | cons p q ih =>
      intro i a e
      cases i with
      | zero => simp at e; subst e; exact ⟨_, rfl, p⟩
      | succ i =>
        obtain ⟨v, h1, h2⟩ := ih i a (by simpa using e)
        exact ⟨v, by simpa using h1, h2⟩
  have own : ∀ (i : Nat) (ds : List D), (args.map slA ++ List.replicate (N.length - np) SV.un)[i]? ≠ some (.own ds) := fun i ds e => by
    rcases List.mem_append.mp (List.mem_of_getElem? e) with z | z
    · obtain ⟨a, _, h2⟩ := List.mem_map.mp z
      cases a <;> simp [slA] at h2
    · have := (List.mem_replicate.mp z).2
      cases this
  refine ⟨r.sub, ?_, fun i x e => ?_, fun i j ds es a e1 => absurd e1 (own i ds), r.src⟩
  · unfold L2.start
    simp only [List.length_append, List.length_map, List.length_replicate]
    omega
  · have e : (args.map slA ++ List.replicate (N.length - np) SV.un)[i]? = some x := e
    by_cases hi : i < args.length
    · rw [List.getElem?_append_left (by simpa using hi)] at e
      rw [List.getElem?_map] at e
      obtain ⟨a, e1, e2⟩ := map_some e
      obtain ⟨v, h1, h2⟩ := get h i a e1
      have hs : (start N vs)[i]? = some (some v) := by
        unfold L2.start
        rw [List.getElem?_append_left (by rw [List.length_map, hl]; exact hi), List.getElem?_map, h1]
        rfl
      subst e2
      cases a with
      | val d => exact ⟨v, hs, h2⟩
      | src =>
        obtain ⟨rfl, h3⟩ := h2
        exact ⟨hs, h3⟩
      | scr ns =>
        obtain ⟨b, rfl, h3⟩ := h2
        exact ⟨b, hs, h3⟩
    · rw [List.getElem?_append_right (by simpa using hi)] at e
      have := List.mem_of_getElem? e
      obtain ⟨_, rfl⟩ := List.mem_replicate.mp this
      trivial
theorem noOwn_start {args : List A} {m : Nat} (i : Nat) (ds : List D) : (args.map slA ++ List.replicate m SV.un)[i]? ≠ some (.own ds) := fun e => by
  rcases List.mem_append.mp (List.mem_of_getElem? e) with z | z
  · obtain ⟨a, _, h2⟩ := List.mem_map.mp z
    cases a <;> simp [slA] at h2
  · have := (List.mem_replicate.mp z).2
    cases this

theorem fnG_of {P : Program} {w : World} {K : PySem.W.Frag} {mg : Str → Option Value} {base : Heap} {k : Nat} {x qual : Str} {st : Stmt} {f : Addr} {fd : FuncData} {N ps : List Str} {cx : Ctx} {Φ : Nat → Fn} {C : Nat → D} {φ : Fn} {body : List Stm}
    (F : L2.Fun K x qual st f fd) (S : FnScope N ps (defScope st)) (h1 : cx.sc = defScope st) (h2 : cx.N = N) (h3 : cx.fnr = none) (hc : chkB cx body (defBody st) = true) (g : Glob P w K mg base k cx Φ C)
    (hφ : ∀ args S r, φ args S = some r → ∃ n, evFn Φ C n ps.length N.length body args S = some r) : FnG P w K mg base (k + 1) f fd ps (spF K ps.length φ) := by
  have hpl : ps.length ≤ N.length := by have := congrArg List.length S.pre; rw [List.length_take] at this; omega
  refine fn_g F S (fun vs H Q ⟨G, S0, sd, args, r, S', rel, pr, hl, e, q⟩ => by rw [pr.length]; exact hl) ?_
  rintro cdv A outer s H vs Q hr hg ⟨G, S0, sd, args, r, S', rel, pr, hl, e, q⟩
  obtain ⟨n, en⟩ := hφ _ _ _ e
  unfold evFn at en
  rw [if_pos hl] at en
  obtain ⟨⟨o, st'⟩, e1, e2⟩ := bind_some en
  refine ⟨rdS K (exB Φ C n body), ?_, S0, sd, G, H, _, sd, G, o, st', FI.start (rel_start rel pr hl hpl) noOwn_start, e1, ?_⟩
  · refine okB (Φ := Φ) (C := C) (n := n) (k := k) body (x := cx) (X := (cxOf L2.CX0 P w K mg base N qual (defScope st) f cdv A outer s H L2.E0).nox) ⟨⟨h1.symm, h2.symm, fun _ _ => rfl, ⟨rfl, S.nd, hr, hg, g.blt, g.fns, g.cst, g.gcd⟩⟩, h3, S.kind, PassesOwn.never⟩ hc
  · cases o with
    | rt a =>
      cases e2
      exact fun v σ' sd' G' H' f _ ar => q v sd' G' H' f.fin ar
    | nx =>
      cases e2
      exact fun σ' sd' G' H' f _ => q .non sd' G' H' f.fin .non
    | bk => cases e2
    | ct => cases e2
end DE

set_option Elab.async false
set_option linter.all false
set_option maxRecDepth 100000
set_option maxHeartbeats 4000000
set_option autoImplicit false
/-! The law's own end: the script comes in, True comes out. -/
namespace DE
open PySem PySem.Spec PyProof.Rows L2

/-- the script as the only tracked object, or none at all -/
theorem sp_script {K : PySem.W.Frag} {φ : Fn} {H : Hp} {a : Addr} {ns : List Int} {S' : Option Src} (hS : SqL K H a (ns.map V.int)) (e : φ [.scr ns] none = some (.val (.bool true), S')) : spF K 1 φ [.ref a] H (fun v _ => v = .bl true) :=
  ⟨H, none, (0, 0), [.scr ns], .val (.bool true), S', ⟨Same.refl _, rfl, fun i x z => by simp at z, fun i j ds es b z => by simp at z, fun s z => by cases z⟩, .cons ⟨a, rfl, hS⟩ .nil, rfl, e, fun v sd' G' H' _ h => by cases (show En K G' v (.bool true) from h); rfl⟩

theorem head_g {P : Program} {w : World} {K : PySem.W.Frag} {mg mb : Str → Option Value} {k : Nat} {fa a : Addr} {fd : FuncData} {x : Str} {φ : Fn} {s : Shared} {vs : List Value} {ns : List Int} {S' : Option Src}
    (inK : K.In s.heap) (gl : s.heap.Ns mainGlobals mg) (bl : s.heap.Ns builtinsNs mb) (bb : ∀ y : Str, y ≠ "__name__" → mb y = bootBuiltins y) (nl : s.heap.NoLimit) (ng : s.gens = #[])
    (obj : s.heap.get? a = some { cls := .type "list", data := .seq vs.toArray }) (aint : IntsAre vs ns) (few : ns.length ≤ sizeLine) (room : Room k callerA)
    (prom : ∀ base : Heap, K.In base → base.Ns mainGlobals mg → FnG P w K mg base k fa fd [x] (spF K 1 φ)) (bind : ∀ (t : Shared) (u : Value), BindsTo t fd ⟨[u], []⟩ [(x, u)])
    (e : φ [.scr ns] none = some (.val (.bool true), S')) :
    codeAny (model P w) callerA (.call (.ref fa) ⟨[.ref a], []⟩) (fun r t => r = .ok (.ret (.bool true)) ∧ OldK s.heap t.heap ∧ t.os = s.os ∧ AllBare t.gens) s := by
  have vals : Vals (ns.map V.int) vs := vals_ints aint
  have goal : ∀ H : Hp, (∀ b, H b = none ∨ (b = a ∧ ∃ o xs, H b = some (.frz o (.lst xs)))) → SqL K H a (ns.map V.int) → HOk P w H s.heap → (H a ≠ none → K.lookup a = none) →
      codeAny (model P w) callerA (.call (.ref fa) ⟨[.ref a], []⟩) (fun r t => r = .ok (.ret (.bool true)) ∧ OldK s.heap t.heap ∧ t.os = s.os ∧ AllBare t.gens) s := by
    intro H only hS ok hK
    have lone : ∀ {b : Addr}, H b ≠ none → b = a := fun {b} z => ((only b).resolve_left z).1
    have notDict : ∀ {b : Addr} {o : Obj} {es : Array DictEntry} {ep : Nat}, s.heap.get? b = some o → o.data = .dict es ep → H b = none := fun {b o es ep} h1 h2 => by
      by_cases z : H b = none
      · exact z
      · cases lone z
        rw [obj] at h1; cases h1
        exact absurd h2 (by intro z; cases z)
    have ns' : ∀ {b : Addr} {m : Str → Option Value}, s.heap.Ns b m → (hidT s.heap H).Ns b m := by
      rintro b m ⟨o, es, ep, h1, h2, h3⟩
      exact ⟨o, es, ep, hidT_get h1 (notDict h1 h2), h2, h3⟩
    have inB : K.In (hidT s.heap H) := by
      intro b o h1
      refine hidT_get (inK b o h1) ?_
      by_cases z : H b = none
      · exact z
      · cases lone z
        rw [hK z] at h1; cases h1
    obtain ⟨mc, l1, l2⟩ := nl
    have env : Env0 P w K mg (hidT s.heap H) callerA [] s H :=
      ⟨rfl, ⟨inB, ns' gl, ⟨mb, ns' bl, bb⟩, ⟨mc, ns' l1, l2⟩⟩, fun b o h1 => of_hidT h1, Nat.le_of_eq (hidT_size _ _), trivial, fun b z => absurd z (List.not_mem_nil), ok, .of_eq ng⟩
    have run := (prom _ inB (ns' gl)).run callerA [] s H ⟨[.ref a], []⟩ [.ref a] [.ref a] _ room rfl env (bind s (.ref a)) (.cons rfl .nil) (sp_script hS e)
    refine codeAny_mono run ?_
    intro r t post
    match r, post with
    | .error x, z => exact z.elim
    | .ok .next, z => exact z.elim
    | .ok .brk, z => exact z.elim
    | .ok .cont, z => exact z.elim
    | .ok (.ret u), ⟨v, H', o1, o2, o3, o4, o5, o6⟩ =>
      have o6 : v = .bl true := o6
      subst o6
      obtain rfl : u = Value.bool true := o5
      refine ⟨rfl, OldK.of_keep ?_, o1, o2⟩
      intro b o h1
      rcases only b with z | ⟨_, ob, xs, z⟩
      · exact o3.keep b o h1 z (List.not_mem_nil) (List.not_mem_nil)
      · have z' := o3.frzs b ob _ z
        have p1 := (ok b _ z).1
        have p2 := (o4 b _ z').1
        rw [h1] at p1
        rw [p2, ← p1]
  by_cases hk : K.lookup a = none
  · refine goal (fun b => if b = a then some (.frz { cls := .type "list", data := .seq vs.toArray } (.lst (ns.map V.int))) else none) ?_ (.inl (.inr ⟨_, if_pos rfl⟩)) ?_ (fun _ => hk)
    · intro b
      by_cases hb : b = a
      · exact .inr ⟨hb, _, _, if_pos hb⟩
      · exact .inl (if_neg hb)
    · intro b u z
      dsimp only at z
      by_cases hb : b = a
      · rw [if_pos hb] at z
        cases z
        subst hb
        exact ⟨obj, by rw [List.length_map]; exact few, vs, _, vals, obj⟩
      · rw [if_neg hb] at z
        cases z
  · obtain ⟨o, ho⟩ := Option.ne_none_iff_exists'.mp hk
    have h1 := inK a o ho
    rw [obj] at h1
    cases h1
    have hl : vs.toArray.size ≤ sizeLine := by
      rw [List.size_toArray, aint.length]; exact few
    exact goal (fun _ => none) (fun _ => .inl rfl) (.inr ⟨_, vs.toArray, _, ho, rfl, rfl, rfl, hl, by simpa using vals⟩) (fun b u z => by cases (show (none : Option HO) = some u from z)) fun z => absurd rfl z

theorem walk_g {l : PySem.W.OpenLaw} {n k : Nat} {q : Program} {loose : List Str} {XP : (Str → Option Value) → Heap → Prop} {YP : World → Heap → Prop} {d : DefRec} {K : Params → PySem.W.Frag} {x : Str} {φ : Fn}
    (most : l.most = some n) (few : n ≤ sizeLine) (nodf : d.params.defaults = []) (room : Room k callerA) (part : ∀ (w : World) (h : Heap), YP w h → (K w.params).In h)
    (prom : ∀ (w : World) (mg : Str → Option Value) (fa : Addr) (h : Heap), (K w.params).In h → h.Ns mainGlobals mg → mg d.name = some (.ref fa) →
      ∃ fd : FuncData, (∀ (s : Shared) (u : Value), BindsTo s fd ⟨[u], []⟩ [(x, u)]) ∧ ∀ base : Heap, (K w.params).In base → base.Ns mainGlobals mg → FnG l.prog w (K w.params) mg base k fa fd [x] (spF (K w.params) 1 φ))
    (law : ∀ ns : List Int, ns.length ≤ n → ∃ S', φ [.scr ns] none = some (.val (.bool true), S')) : PySem.W.WalkO q loose XP YP l.row.toRowW d [] (fun f vs => PySem.call f vs) := by
  refine Att.attach_call most nodf ?_
  intro w s0 s mg mb fa o pm cd doc a vs ns G Y _ _ _ hm ho hi hl hg
  have inK := part w _ Y
  obtain ⟨fd, hb, hF⟩ := prom w mg fa _ inK G.T.g hm
  obtain ⟨S', e⟩ := law ns hl
  exact head_g inK G.T.g G.T.b G.T.builtins G.T.nolimit hg ho hi (Nat.le_trans hl few) room hF hb e
end DE

set_option Elab.async false
set_option linter.all false
set_option maxRecDepth 100000
set_option maxHeartbeats 4000000
set_option autoImplicit false
/-! What the top has written, and the chain of promises. -/
namespace DE
open PySem PySem.Spec PyProof.Rows L2

/-- a def of the module as the top has made it -/
structure Top (K : PySem.W.Frag) (x : Str) (st : Stmt) : Prop where
  ex : ∃ (f : Addr) (fd : FuncData), PySem.W.nsIn K mainGlobals x = some (some (.ref f)) ∧ L2.Fun K x x st f fd ∧ PySem.W.keepIn K (.ref f) = true
theorem top_mk {K : PySem.W.Frag} {x : Str} {st : Stmt} {f : Addr} {oc kV dc pm cd ct : Value} {od an : Option Addr} {sl : Array (Option Value)} (a : PySem.W.nsIn K mainGlobals x = some (some (.ref f)))
    (l : K.lookup f = some ⟨oc, od, .func (PySem.W.fnOf x x (defArgs st) (defBody st) (defScope st) .none kV dc pm an cd ct), sl⟩) (c : PySem.W.codeIn K cd x = true) (k : PySem.W.keepIn K (.ref f) = true) : Top K x st :=
  ⟨f, _, a, fun_mk l c k, k⟩
/-- a pair of ints as a constant of the module -/
def IsPair (K : PySem.W.Frag) (x : Str) (i j : Int) : Prop := ∃ (a : Addr) (ti tj : Tok) (oc : Value) (od : Option Addr) (n : Nat) (sl : Array (Option Value)), PySem.W.nsIn K mainGlobals x = some (some (.ref a)) ∧ K.lookup a = some ⟨.type "tuple", none, .seq #[.int i ti, .int j tj] n, sl⟩
theorem pair_mk {K : PySem.W.Frag} {x : Str} {i j : Int} {a : Addr} {ti tj : Tok} {n : Nat} {sl : Array (Option Value)} (h : PySem.W.nsIn K mainGlobals x = some (some (.ref a))) (l : K.lookup a = some ⟨.type "tuple", none, .seq #[.int i ti, .int j tj] n, sl⟩) : IsPair K x i j :=
  ⟨a, ti, tj, .none, none, n, sl, h, l⟩
section
variable {P : Program} {w : World} {K : PySem.W.Frag} {mg : Str → Option Value} {base h : Heap} {k : Nat}
theorem pair_cst {x : Str} {i j : Int} (inK : K.In h) (G : h.Ns mainGlobals mg) (p : IsPair K x i j) : ∃ v u, mg x = some u ∧ RelV v u ∧ ∀ G, En K G v (.tuple [.int i, .int j]) := by
  obtain ⟨a, ti, tj, _, _, n, sl, h1, h2⟩ := p
  refine ⟨.ref a, _, PySem.W.mg_of inK G h1, rfl, fun G => .tup (xs := [.int i, .int j]) (.inr ⟨_, _, n, h2, rfl, rfl, ?_, ?_⟩) (.cons (.int i) (.cons (.int j) .nil))⟩
  · show 2 ≤ sizeLine; decide
  · exact .cons ⟨ti, rfl⟩ (.cons ⟨tj, rfl⟩ .nil)
theorem fns_nil {Φ : Nat → Fn} : ∀ x i, (([] : List (Str × Nat))).lookup x = some i → ∃ n, (∀ args S r, Φ i args S = some r → args.length = n) ∧ CalG P w K mg base k x (spF K n (Φ i)) := fun x i h => by cases h
theorem fns_cons {Φ : Nat → Fn} {y : Str} {j : Nat} {r : List (Str × Nat)} (h : ∃ n, (∀ args S r, Φ j args S = some r → args.length = n) ∧ CalG P w K mg base k y (spF K n (Φ j)))
    (hr : ∀ x i, r.lookup x = some i → ∃ n, (∀ args S r, Φ i args S = some r → args.length = n) ∧ CalG P w K mg base k x (spF K n (Φ i))) :
    ∀ x i, ((y, j) :: r).lookup x = some i → ∃ n, (∀ args S r, Φ i args S = some r → args.length = n) ∧ CalG P w K mg base k x (spF K n (Φ i)) := fun x i e => by
  rw [List.lookup_cons] at e
  cases z : x == y with
  | true =>
    rw [z] at e
    cases e
    rw [beq_iff_eq] at z
    subst z
    exact h
  | false =>
    rw [z] at e
    exact hr x i e
theorem cs_nil {C : Nat → D} : ∀ x i, (([] : List (Str × Nat))).lookup x = some i → ∃ v u, mg x = some u ∧ RelV v u ∧ ∀ G, En K G v (C i) := fun x i h => by cases h
theorem cs_cons {C : Nat → D} {y : Str} {j : Nat} {r : List (Str × Nat)} (h : ∃ v u, mg y = some u ∧ RelV v u ∧ ∀ G, En K G v (C j)) (hr : ∀ x i, r.lookup x = some i → ∃ v u, mg x = some u ∧ RelV v u ∧ ∀ G, En K G v (C i)) :
    ∀ x i, ((y, j) :: r).lookup x = some i → ∃ v u, mg x = some u ∧ RelV v u ∧ ∀ G, En K G v (C i) := fun x i e => by
  rw [List.lookup_cons] at e
  cases z : x == y with
  | true =>
    rw [z] at e
    cases e
    rw [beq_iff_eq] at z
    subst z
    exact h
  | false =>
    rw [z] at e
    exact hr x i e
theorem blt_of {l : List Str} (inK : K.In h) (G : h.Ns mainGlobals mg) (e : ∀ x ∈ l, PySem.W.nsIn K mainGlobals x = some none) : ∀ x ∈ l, mg x = none := fun x hx => PySem.W.mg_none_of inK G (e x hx)
/-- what a def's parameters come to -/
abbrev BindOk (x : Str) (st : Stmt) (ps : List Str) : Prop := ∀ (kV doc pm : Value) (an : Option Addr) (cdv ct : Value) (us : List Value), us.length = ps.length → bindArgs (PySem.W.fnOf x x (defArgs st) (defBody st) (defScope st) .none kV doc pm an cdv ct) ⟨us, []⟩ = pure (ps.zip us)
theorem cal_of {x : Str} {st : Stmt} {N ps : List Str} {cx : Ctx} {Φ : Nat → Fn} {C : Nat → D} {φ : Fn} {body : List Stm} (T : Top K x st) (inK : K.In h) (Gl : h.Ns mainGlobals mg) (S : FnScope N ps (defScope st)) (b : BindOk x st ps)
    (h1 : cx.sc = defScope st) (h2 : cx.N = N) (h3 : cx.fnr = none) (hc : chkB cx body (defBody st) = true) (g : Glob P w K mg base k cx Φ C)
    (hφ : ∀ args S r, φ args S = some r → ∃ n, evFn Φ C n ps.length N.length body args S = some r) : CalG P w K mg base (k + 1) x (spF K ps.length φ) := by
  obtain ⟨f, fd, a, F, kp⟩ := T.ex
  exact cal_g (fnG_of F S h1 h2 h3 hc g hφ) (PySem.W.mg_of inK Gl a) kp (F.binds b)
/-- the law's own def -/
theorem law_of {x : Str} {st : Stmt} {N : List Str} {cx : Ctx} {Φ : Nat → Fn} {C : Nat → D} {φ : Fn} {body : List Stm} {fa : Addr} {p : Str} (T : Top K x st) (inK : K.In h) (Gl : h.Ns mainGlobals mg) (hfa : mg x = some (.ref fa)) (S : FnScope N [p] (defScope st))
    (b : ∀ (kV doc pm : Value) (an : Option Addr) (cdv ct u : Value), bindArgs (PySem.W.fnOf x x (defArgs st) (defBody st) (defScope st) .none kV doc pm an cdv ct) ⟨[u], []⟩ = pure [(p, u)]) (h1 : cx.sc = defScope st) (h2 : cx.N = N) (h3 : cx.fnr = none) (hc : chkB cx body (defBody st) = true)
    (g : ∀ base : Heap, K.In base → base.Ns mainGlobals mg → Glob P w K mg base k cx Φ C) (hφ : ∀ args S r, φ args S = some r → ∃ n, evFn Φ C n 1 N.length body args S = some r) :
    ∃ fd : FuncData, (∀ (s : Shared) (u : Value), BindsTo s fd ⟨[u], []⟩ [(p, u)]) ∧ ∀ base : Heap, K.In base → base.Ns mainGlobals mg → FnG P w K mg base (k + 1) fa fd [p] (spF K 1 φ) := by
  obtain ⟨f, fd, a, F, kp⟩ := T.ex
  have e := hfa.symm.trans (PySem.W.mg_of inK Gl a)
  cases e
  obtain ⟨oc, od, kV, doc, pm, an, cdv, ct, osl, rfl, lk, hcd⟩ := F.ex
  exact ⟨_, fun s u => .of_eq (b kV doc pm an cdv ct u), fun base h5 h6 => fnG_of (ps := [p]) F S h1 h2 h3 hc (g base h5 h6) hφ⟩
/-- no promise at all is kept by every def -/
theorem cal_none {x : Str} {st : Stmt} {ps : List Str} (T : Top K x st) (inK : K.In h) (Gl : h.Ns mainGlobals mg) (b : BindOk x st ps) (n : Nat) : CalG P w K mg base k x (spF K n (fun _ _ => none)) := by
  obtain ⟨f, fd, a, F, kp⟩ := T.ex
  refine cal_g (ps := ps) ⟨fun vs H Q z => ?_, fun A outer s H args us vs Q _ _ _ _ _ z => ?_⟩ (PySem.W.mg_of inK Gl a) kp (F.binds b)
  all_goals
    obtain ⟨_, _, _, _, _, _, _, _, _, e, _⟩ := z
    cases e
end
end DE

set_option Elab.async false
set_option linter.all false
set_option maxRecDepth 100000
set_option maxHeartbeats 4000000
set_option autoImplicit false
/-! A module as a table of defs; what its defs mean, by depth; the chain of promises at once. -/
namespace DE
open PySem PySem.Spec PyProof.Rows L2

structure FD where
  name : Str
  st : Stmt
  N : List Str
  ps : List Str
  cx : Ctx
  body : List Stm
def FUEL : Nat := 2 ^ 100000
/-- the meaning of the i-th def, k calls deep -/
def mean (tbl : List FD) (C : Nat → D) : Nat → Nat → Fn
  | 0, _ => fun _ _ => none
  | k + 1, i => match tbl[i]? with
    | some r => evFn (mean tbl C k) C FUEL r.ps.length r.N.length r.body
    | none => fun _ _ => none
structure FOk (tbl : List FD) (nc : List Str) (r : FD) : Prop where
  sc : FnScope r.N r.ps (defScope r.st)
  bind : BindOk r.name r.st r.ps
  h1 : r.cx.sc = defScope r.st
  h2 : r.cx.N = r.N
  h3 : r.cx.fnr = none
  chk : chkB r.cx r.body (defBody r.st) = true
  fns : (r.cx.fns.all fun p => decide ((tbl[p.2]?).map FD.name = some p.1)) = true
  cs : (r.cx.cs.all fun p => decide (nc[p.2]? = some p.1)) = true
section
variable {P : Program} {w : World} {K : PySem.W.Frag} {mg : Str → Option Value} {base h : Heap} {tbl : List FD} {nc : List Str} {C : Nat → D}
theorem mean_len {k i : Nat} {r : FD} (hr : tbl[i]? = some r) {args : List A} {S : Option Src} {y : A × Option Src} (e : mean tbl C k i args S = some y) : args.length = r.ps.length := by
  cases k with
  | zero => cases e
  | succ k =>
    simp only [mean, hr] at e
    unfold evFn at e
    split at e
    · assumption
    · cases e
theorem chain {k : Nat} (inK : K.In h) (Gl : h.Ns mainGlobals mg) (ok : ∀ r ∈ tbl, FOk tbl nc r) (top : ∀ r ∈ tbl, Top K r.name r.st) (blt : ∀ x ∈ bltNames, PySem.W.nsIn K mainGlobals x = some none) (gcd : (∃ r ∈ tbl, r.cx.gcd = true) → PySem.W.nsIn K mainGlobals "gcd" = some (some (.builtin "math.gcd")))
    (cst : ∀ (i : Nat) x, nc[i]? = some x → ∃ v u, mg x = some u ∧ RelV v u ∧ ∀ G, En K G v (C i)) : ∀ i r, tbl[i]? = some r → CalG P w K mg base k r.name (spF K r.ps.length (mean tbl C k i)) := by
  induction k with
  | zero =>
    intro i r hr
    have hm := List.mem_of_getElem? hr
    exact cal_none (top r hm) inK Gl (ok r hm).bind _
  | succ k ih =>
    intro i r hr
    have hm := List.mem_of_getElem? hr
    have o := ok r hm
    refine cal_of (Φ := mean tbl C k) (C := C) (N := r.N) (ps := r.ps) (cx := r.cx) (body := r.body) (top r hm) inK Gl o.sc o.bind o.h1 o.h2 o.h3 o.chk ⟨blt_of inK Gl blt, fun x j e => ?_, fun x j e => ?_, fun z => PySem.W.mg_of inK Gl (gcd ⟨r, hm, z⟩)⟩ fun args S y e => ⟨FUEL, ?_⟩
    · have := List.all_eq_true.mp o.fns _ (PySem.mem_of_lookup e)
      simp only [decide_eq_true_eq, Option.map_eq_some_iff] at this
      obtain ⟨r', h1, rfl⟩ := this
      exact ⟨_, fun args S y e => mean_len h1 e, ih j r' h1⟩
    · have := List.all_eq_true.mp o.cs _ (PySem.mem_of_lookup e)
      simp only [decide_eq_true_eq] at this
      exact cst j x this
    · simpa only [mean, hr] using e
theorem law_chain {k i : Nat} {r : FD} {fa : Addr} {p : Str} (inK : K.In h) (Gl : h.Ns mainGlobals mg) (ok : ∀ r ∈ tbl, FOk tbl nc r) (top : ∀ r ∈ tbl, Top K r.name r.st) (blt : ∀ x ∈ bltNames, PySem.W.nsIn K mainGlobals x = some none)
    (gcd : (∃ r ∈ tbl, r.cx.gcd = true) → PySem.W.nsIn K mainGlobals "gcd" = some (some (.builtin "math.gcd"))) (cst : ∀ (i : Nat) x, nc[i]? = some x → ∃ v u, mg x = some u ∧ RelV v u ∧ ∀ G, En K G v (C i)) (hr : tbl[i]? = some r) (hp : r.ps = [p])
    (hfa : mg r.name = some (.ref fa)) : ∃ fd : FuncData, (∀ (s : Shared) (u : Value), BindsTo s fd ⟨[u], []⟩ [(p, u)]) ∧ ∀ base : Heap, K.In base → base.Ns mainGlobals mg → FnG P w K mg base (k + 1) fa fd [p] (spF K 1 (mean tbl C (k + 1) i)) := by
  have hm := List.mem_of_getElem? hr
  have o := ok r hm
  refine law_of (Φ := mean tbl C k) (C := C) (N := r.N) (p := p) (cx := r.cx) (body := r.body) (top r hm) inK Gl hfa (hp ▸ o.sc) (fun a b c d e f u => ?_) o.h1 o.h2 o.h3 o.chk (fun base inB GB => ⟨blt_of inK Gl blt, fun x j e => ?_, fun x j e => ?_, fun z => PySem.W.mg_of inK Gl (gcd ⟨r, hm, z⟩)⟩) fun args S y e => ⟨FUEL, ?_⟩
  · have := o.bind a b c d e f [u] (by rw [hp]; rfl)
    rw [hp] at this
    exact this
  · have := List.all_eq_true.mp o.fns _ (PySem.mem_of_lookup e)
    simp only [decide_eq_true_eq, Option.map_eq_some_iff] at this
    obtain ⟨r', h1, rfl⟩ := this
    exact ⟨_, fun args S y e => mean_len h1 e, chain (base := base) inK Gl ok top blt gcd cst j r' h1⟩
  · have := List.all_eq_true.mp o.cs _ (PySem.mem_of_lookup e)
    simp only [decide_eq_true_eq] at this
    exact cst j x this
  · have e' : mean tbl C (k + 1) i = evFn (mean tbl C k) C FUEL r.ps.length r.N.length r.body := by simp only [mean, hr]
    rw [e', hp] at e
    exact e
end
end DE

set_option Elab.async false
set_option linter.all false
set_option maxRecDepth 100000
set_option maxHeartbeats 4000000
set_option autoImplicit false
/-! Evaluation by simp. -/
namespace DE
open PySem PySem.Spec PyProof.Rows L2

section
variable {Φ : Nat → Fn} {C : Nat → D} {n : Nat} {γ : List SV} {S : Option Src} {st : Stt} {i j : Nat}
@[simp] theorem ev_non : ev Φ C .non st = some (.val .none, st) := rfl
@[simp] theorem ev_bl {b : Bool} : ev Φ C (.bl b) st = some (.val (.bool b), st) := rfl
@[simp] theorem ev_int {z : Int} : ev Φ C (.int z) st = some (.val (.int z), st) := rfl
@[simp] theorem ev_str {z : Str} : ev Φ C (.str z) st = some (.val (.str z), st) := rfl
@[simp] theorem ev_cst : ev Φ C (.cst i) st = some (.val (C i), st) := rfl
@[simp] theorem ev_yes : ev Φ C .yes st = some (.val (.bool true), st) := rfl
@[simp] theorem ev_dic0 : ev Φ C .dic0 st = some (.val (.dict []), st) := rfl
/-- what a slot gives -/
def slotR : Option SV → Nat → Stt → Option (R × Stt)
  | some (.val d), _, st => some (.val d, st)
  | some (.own _), i, st => some (.bor i, st)
  | some .src, _, st => some (.src, st)
  | some (.scr ns), _, st => some (.scr ns, st)
  | _, _, _ => none
@[simp] theorem slotR_val {d : D} {i : Nat} {st : Stt} : slotR (some (.val d)) i st = some (.val d, st) := rfl
@[simp] theorem slotR_own {d : List D} {i : Nat} {st : Stt} : slotR (some (.own d)) i st = some (.bor i, st) := rfl
@[simp] theorem slotR_src {i : Nat} {st : Stt} : slotR (some .src) i st = some (.src, st) := rfl
@[simp] theorem slotR_scr {ns : List Int} {i : Nat} {st : Stt} : slotR (some (.scr ns)) i st = some (.scr ns, st) := rfl
@[simp] theorem ev_var : ev Φ C (.var i) ⟨γ, S⟩ = slotR (γ[i]?) i ⟨γ, S⟩ := by
  simp only [ev]
  cases h : γ[i]? with
  | none => rfl
  | some x => cases x <;> rfl
@[simp] theorem ev_bin {op : Bop} {a b : Ex} : ev Φ C (.bin op a b) st = fBin (bopD op) (ev Φ C a) (ev Φ C b) st := rfl
@[simp] theorem ev_cmp {op : Cop} {a b : Ex} : ev Φ C (.cmp op a b) st = fBin (copD op) (ev Φ C a) (ev Φ C b) st := rfl
@[simp] theorem ev_ix {a b : Ex} : ev Φ C (.ix a b) st = fBin ixD (ev Φ C a) (ev Φ C b) st := rfl
@[simp] theorem ev_neg {a : Ex} : ev Φ C (.neg a) st = fUn negD (ev Φ C a) st := rfl
@[simp] theorem ev_rev {a : Ex} : ev Φ C (.rev a) st = fUn revD (ev Φ C a) st := rfl
@[simp] theorem ev_not {a : Ex} : ev Φ C (.not a) st = fNot (ev Φ C a) st := rfl
@[simp] theorem ev_and {a b : Ex} : ev Φ C (.and a b) st = fAnd (ev Φ C a) (ev Φ C b) st := rfl
@[simp] theorem ev_or {a b : Ex} : ev Φ C (.or a b) st = fOr (ev Φ C a) (ev Φ C b) st := rfl
@[simp] theorem ev_ite {c a b : Ex} : ev Φ C (.ite c a b) st = fIte (ev Φ C c) (ev Φ C a) (ev Φ C b) st := rfl
@[simp] theorem ev_tup {es : List Ex} : ev Φ C (.tup es) st = fTup (evs Φ C es) st := rfl
@[simp] theorem ev_lst {es : List Ex} : ev Φ C (.lst es) st = fLst (evs Φ C es) st := rfl
@[simp] theorem ev_slL {a b : Ex} : ev Φ C (.slL a b) st = fSl (ev Φ C a) (fSoI (ev Φ C b)) fNoI st := rfl
@[simp] theorem ev_slH {a b : Ex} : ev Φ C (.slH a b) st = fSl (ev Φ C a) fNoI (fSoI (ev Φ C b)) st := rfl
@[simp] theorem ev_sl {a b c : Ex} : ev Φ C (.sl a b c) st = fSl (ev Φ C a) (fSoI (ev Φ C b)) (fSoI (ev Φ C c)) st := rfl
@[simp] theorem ev_call {f : Nat} {es : List Ex} : ev Φ C (.call f es) st = fCall (Φ f) (eva Φ C es) st := rfl
@[simp] theorem ev_blt {f : Bl} {es : List Ex} : ev Φ C (.blt f es) st = fBl (blD f) (evr Φ C es) st := rfl
@[simp] theorem ev_gcd {a b : Ex} : ev Φ C (.gcd a b) st = fBl gcdD (fCons (fP (ev Φ C a)) (fCons (fP (ev Φ C b)) fNil)) st := rfl
@[simp] theorem ev_isi {a : Ex} {t : Ty} : ev Φ C (.isi a t) st = fUn (fun d => some (.val (.bool (isB t d)))) (ev Φ C a) st := rfl
@[simp] theorem ev_lc {own : List Nat} {tg : Tg} {it : EI} {cond elt : Ex} : ev Φ C (.lc own tg it cond elt) st = fLc own tg (evi Φ C it) (fT (ev Φ C cond)) (fV (ev Φ C elt)) st := rfl
@[simp] theorem ev_sfld {f : SF} : ev Φ C (.sfld i f) st = (srcAt st i).map fun s => (.val (.int (f.get s)), st) := rfl
@[simp] theorem ev_slen : ev Φ C (.slen i) st = (srcAt st i).map fun s => (.val (.int (s.cells.length : Nat)), st) := rfl
@[simp] theorem ev_clen : ev Φ C (.clen i) st = (celAt st i).map fun s => (.val (.int (s.cells.length : Nat)), st) := rfl
@[simp] theorem ev_callK {f : Nat} {es : List Ex} : ev Φ C (.callK f es) st = fKeep (fCall (Φ f) (eva Φ C es)) st := rfl
@[simp] theorem ev_dspT {ss : List Bool} {es : List Ex} : ev Φ C (.dsp true ss es) st = fTup (evS Φ C ss es) st := rfl
@[simp] theorem ev_dspL {ss : List Bool} {es : List Ex} : ev Φ C (.dsp false ss es) st = fLst (evS Φ C ss es) st := rfl
@[simp] theorem evS_nil {ss : List Bool} : evS Φ C ss [] st = some ([], st) := rfl
@[simp] theorem evS_star {ss : List Bool} {e : Ex} {es : List Ex} : evS Φ C (true :: ss) (e :: es) st = fStar (fSeq (ev Φ C e)) (evS Φ C ss es) st := rfl
@[simp] theorem evS_cons {ss : List Bool} {e : Ex} {es : List Ex} : evS Φ C (false :: ss) (e :: es) st = fCons (fV (ev Φ C e)) (evS Φ C ss es) st := rfl
@[simp] theorem evs_nil : evs Φ C [] st = some ([], st) := rfl
@[simp] theorem evs_cons {e : Ex} {es : List Ex} : evs Φ C (e :: es) st = fCons (fV (ev Φ C e)) (evs Φ C es) st := rfl
@[simp] theorem evr_nil : evr Φ C [] st = some ([], st) := rfl
@[simp] theorem evr_cons {e : Ex} {es : List Ex} : evr Φ C (e :: es) st = fCons (fP (ev Φ C e)) (evr Φ C es) st := rfl
@[simp] theorem eva_nil : eva Φ C [] st = some ([], st) := rfl
@[simp] theorem eva_cons {e : Ex} {es : List Ex} : eva Φ C (e :: es) st = fConsA (fA (ev Φ C e)) (eva Φ C es) st := rfl
@[simp] theorem evi_seq {a : Ex} : evi Φ C (.seq a) st = fSeq (ev Φ C a) st := rfl
@[simp] theorem evi_rng {es : List Ex} : evi Φ C (.rng es) st = fRng (evr Φ C es) st := rfl
@[simp] theorem evi_enum {a : Ex} : evi Φ C (.enum a) st = fEnum (ev Φ C a) st := rfl
@[simp] theorem evi_zip {a b : Ex} : evi Φ C (.zip a b) st = fZip (ev Φ C a) (ev Φ C b) st := rfl
@[simp] theorem evi_scr : evi Φ C (.scr i) st = (scrAt st i).map fun ns => (ns.map PyData.int, st) := rfl
/-! statements -/
@[simp] theorem exB_nil : exB Φ C n [] st = some (.nx, st) := rfl
@[simp] theorem exB_cons {s : Stm} {r : List Stm} : exB Φ C n (s :: r) st = gSeq (exS Φ C n s) (exB Φ C n r) st := rfl
@[simp] theorem exS_asg {e : Ex} : exS Φ C n (.asg i e) st = gPar [i] (fKs [ev Φ C e]) st := rfl
@[simp] theorem exS_asgT {tg : Tg} {e : Ex} : exS Φ C n (.asgT tg e) st = gAsgT tg (fV (ev Φ C e)) st := rfl
@[simp] theorem exS_par {is : List Nat} {es : List Ex} : exS Φ C n (.par is es) st = gPar is (fKs (es.map (ev Φ C))) st := rfl
@[simp] theorem exS_setI {ix e : Ex} : exS Φ C n (.setI i ix e) st = gSetI i (fInt (ev Φ C ix)) (fV (ev Φ C e)) st := rfl
@[simp] theorem exS_app {e : Ex} : exS Φ C n (.app i e) st = gApp i (fV (ev Φ C e)) st := rfl
@[simp] theorem exS_ext {e : Ex} : exS Φ C n (.ext i e) st = gExt i (fP (ev Φ C e)) st := rfl
@[simp] theorem exS_pop : exS Φ C n (.pop i) st = gPop i st := rfl
@[simp] theorem exS_ret {e : Ex} : exS Φ C n (.ret e) st = gRet (fA (ev Φ C e)) st := rfl
@[simp] theorem exS_retN : exS Φ C n .retN st = some (.rt (.val .none), st) := rfl
@[simp] theorem exS_ifS {c : Ex} {a b : List Stm} : exS Φ C n (.ifS c a b) st = gIf (fT (ev Φ C c)) (exB Φ C n a) (exB Φ C n b) st := rfl
@[simp] theorem exS_whl {c : Ex} {b : List Stm} : exS Φ C n (.whl c b) st = whileF (fT (ev Φ C c)) (exB Φ C n b) n st := rfl
@[simp] theorem exS_forS {tg : Tg} {it : EI} {b : List Stm} : exS Φ C n (.forS tg it b) st = gFor tg (evi Φ C it) (exB Φ C n b) st := rfl
@[simp] theorem exS_brk : exS Φ C n .brk st = some (.bk, st) := rfl
@[simp] theorem exS_cont : exS Φ C n .cont st = some (.ct, st) := rfl
@[simp] theorem exS_pass : exS Φ C n .pass st = some (.nx, st) := rfl
@[simp] theorem exS_sset {f : SF} {e : Ex} : exS Φ C n (.sset i f e) st = gSset i f (fInt (ev Φ C e)) st := rfl
@[simp] theorem exS_spop : exS Φ C n (.spop i) st = gSpop i st := rfl
@[simp] theorem exS_cpop : exS Φ C n (.cpop i j) st = gCpop i j st := rfl
@[simp] theorem exS_scel : exS Φ C n (.scel i j) st = gScel i j st := rfl
@[simp] theorem exS_rsrc {c l m t : Ex} : exS Φ C n (.rsrc c l m t) st = gRsrc (fK (ev Φ C c)) (fInt (ev Φ C l)) (fInt (ev Φ C m)) (fInt (ev Φ C t)) st := rfl
/-! combinators -/
section
variable {φ ψ χ : Ph}
@[simp] theorem toV_val {d : D} : toV (.val d) st = some (d, st) := rfl
@[simp] theorem toV_new {ds : List D} : toV (.new ds) st = some (.list ds, st) := rfl
@[simp] theorem pk_val {d : D} : pk (.val d) st = some d := rfl
@[simp] theorem pk_new {ds : List D} : pk (.new ds) st = some (.list ds) := rfl
def pkS : Option SV → Option D
  | some (.own ds) => some (.list ds)
  | some (.val d) => some d
  | _ => none
@[simp] theorem pkS_own {ds : List D} : pkS (some (.own ds)) = some (.list ds) := rfl
@[simp] theorem pkS_val {d : D} : pkS (some (.val d)) = some d := rfl
@[simp] theorem pk_bor : pk (.bor i) ⟨γ, S⟩ = pkS γ[i]? := by
  simp only [pk]
  cases h : γ[i]? with
  | none => rfl
  | some x => cases x <;> rfl
def toVS : Option SV → Nat → Stt → Option (D × Stt)
  | some (.own ds), i, st => some (.list ds, { st with γ := st.γ.set i (.val (.list ds)) })
  | some (.val d), _, st => some (d, st)
  | _, _, _ => none
@[simp] theorem toVS_own {ds : List D} {i : Nat} {st : Stt} : toVS (some (.own ds)) i st = some (.list ds, { st with γ := st.γ.set i (.val (.list ds)) }) := rfl
@[simp] theorem toVS_val {d : D} {i : Nat} {st : Stt} : toVS (some (.val d)) i st = some (d, st) := rfl
@[simp] theorem toV_bor : toV (.bor i) ⟨γ, S⟩ = toVS γ[i]? i ⟨γ, S⟩ := by
  simp only [toV]
  cases h : γ[i]? with
  | none => rfl
  | some x => cases x <;> rfl
@[simp] theorem fV_eq : fV φ st = (φ st).bind fun p => toV p.1 p.2 := rfl
@[simp] theorem fP_eq : fP φ st = (φ st).bind fun p => (pk p.1 p.2).map fun d => (d, p.2) := rfl
def boolOf : D → Option Bool
  | .bool b => some b
  | _ => none
@[simp] theorem boolOf_bool {b : Bool} : boolOf (.bool b) = some b := rfl
@[simp] theorem fT_eq : fT φ st = (fP φ st).bind fun p => (boolOf p.1).map fun b => (b, p.2) := by
  unfold fT
  congr 1
  funext p
  obtain ⟨d, s⟩ := p
  cases d <;> rfl
@[simp] theorem fBin_eq {bd : D → D → Option R} : fBin bd φ ψ st = (fP φ st).bind fun p => (fP ψ p.2).bind fun q => (bd p.1 q.1).map fun r => (r, q.2) := rfl
@[simp] theorem fUn_eq {ud : D → Option R} : fUn ud φ st = (fP φ st).bind fun p => (ud p.1).map fun r => (r, p.2) := rfl
@[simp] theorem fAnd_eq : fAnd φ ψ st = (fT φ st).bind fun p => if p.1 = true then ψ p.2 else some (.val (.bool false), p.2) := rfl
@[simp] theorem fOr_eq : fOr φ ψ st = (fT φ st).bind fun p => if p.1 = true then some (.val (.bool true), p.2) else ψ p.2 := rfl
@[simp] theorem fNot_eq : fNot φ st = (fT φ st).map fun p => (.val (.bool (!p.1)), p.2) := rfl
@[simp] theorem fIte_eq : fIte φ ψ χ st = (fT φ st).bind fun p => if p.1 = true then ψ p.2 else χ p.2 := rfl
@[simp] theorem fCons_eq {ω : Stt → Option (D × Stt)} {ρ : PhL} : fCons ω ρ st = (ω st).bind fun p => (ρ p.2).map fun q => (p.1 :: q.1, q.2) := rfl
@[simp] theorem fNil_eq : fNil st = some ([], st) := rfl
def argR : R → Stt → Option (A × Stt)
  | .src, st => some (.src, st)
  | .scr ns, st => some (.scr ns, st)
  | .val d, st => some (.val d, st)
  | .new ds, st => some (.val (.list ds), st)
  | .bor i, st => (toV (.bor i) st).map fun q => (.val q.1, q.2)
@[simp] theorem argR_src {st : Stt} : argR .src st = some (.src, st) := rfl
@[simp] theorem argR_scr {ns : List Int} {st : Stt} : argR (.scr ns) st = some (.scr ns, st) := rfl
@[simp] theorem argR_val {d : D} {st : Stt} : argR (.val d) st = some (.val d, st) := rfl
@[simp] theorem argR_new {ds : List D} {st : Stt} : argR (.new ds) st = some (.val (.list ds), st) := rfl
@[simp] theorem argR_bor {i : Nat} {st : Stt} : argR (.bor i) st = (toV (.bor i) st).map fun q => (.val q.1, q.2) := rfl
@[simp] theorem fA_eq : fA φ st = (φ st).bind fun p => argR p.1 p.2 := by
  unfold fA
  congr 1
  funext p
  obtain ⟨r, s⟩ := p
  cases r <;> rfl
@[simp] theorem fConsA_eq {ω : Stt → Option (A × Stt)} {ρ : Stt → Option (List A × Stt)} : fConsA ω ρ st = (ω st).bind fun p => (ρ p.2).map fun q => (p.1 :: q.1, q.2) := rfl
def keepS : List SV → R × Stt → Option (R × Stt)
  | γ, (.val d, st') => if keepOk γ st'.γ d = true then some (.val d, ⟨γ, st'.S⟩) else none
  | _, _ => none
@[simp] theorem keepS_val {γ : List SV} {d : D} {st' : Stt} : keepS γ (.val d, st') = if keepOk γ st'.γ d = true then some (.val d, ⟨γ, st'.S⟩) else none := rfl
@[simp] theorem fKeep_eq : fKeep φ st = (φ st).bind fun p => keepS st.γ p := by
  unfold fKeep
  congr 1
  funext p
  obtain ⟨r, s⟩ := p
  cases r <;> rfl
@[simp] theorem keepOk_own {ds es : List D} {g g' : List SV} {d : D} : keepOk (.own ds :: g) (.own es :: g') d = keepOk g g' d := by simp [keepOk]
@[simp] theorem keepOk_moved {ds : List D} {e : D} {g g' : List SV} {d : D} : keepOk (.own ds :: g) (.val e :: g') d = (noL ds.length d && keepOk g g' d) := by simp [keepOk]
@[simp] theorem keepOk_val {e : D} {x : SV} {g g' : List SV} {d : D} : keepOk (.val e :: g) (x :: g') d = keepOk g g' d := by cases x <;> simp [keepOk]
@[simp] theorem keepOk_un {x : SV} {g g' : List SV} {d : D} : keepOk (.un :: g) (x :: g') d = keepOk g g' d := by cases x <;> simp [keepOk]
@[simp] theorem keepOk_src {x : SV} {g g' : List SV} {d : D} : keepOk (.src :: g) (x :: g') d = keepOk g g' d := by cases x <;> simp [keepOk]
@[simp] theorem keepOk_nil {d : D} : keepOk [] [] d = true := rfl
/-- a slot that is not known -/
theorem keepOk_any {y : SV} {g g' : List SV} {d : D} : keepOk (y :: g) (y :: g') d = keepOk g g' d := by cases y <;> simp [keepOk]
@[simp] theorem fStar_eq {φ ρ : PhL} : fStar φ ρ st = (φ st).bind fun p => (ρ p.2).map fun q => (p.1 ++ q.1, q.2) := rfl
@[simp] theorem fTup_eq {ρ : PhL} : fTup ρ st = (ρ st).bind fun p => if p.1.length ≤ most then some (.val (.tuple p.1), p.2) else none := rfl
@[simp] theorem fLst_eq {ρ : PhL} : fLst ρ st = (ρ st).bind fun p => if p.1.length ≤ most then some (.new p.1, p.2) else none := rfl
@[simp] theorem fInt_eq : fInt φ st = (fP φ st).bind fun p => (intOf p.1).map fun i => (i, p.2) := rfl
@[simp] theorem intOf_int {z : Int} : intOf (.int z) = some z := rfl
@[simp] theorem fSl_eq {lo hi : Stt → Option (Option Int × Stt)} : fSl φ lo hi st = (fP φ st).bind fun p => (lo p.2).bind fun a => (hi a.2).bind fun b => (slD p.1 a.1 b.1).map fun r => (r, b.2) := rfl
@[simp] theorem fNoI_eq : fNoI st = some (none, st) := rfl
@[simp] theorem fSoI_eq : fSoI φ st = (fInt φ st).map fun p => (some p.1, p.2) := rfl
def backR : A → R
  | .val d => .val d
  | .src => .src
  | .scr ns => .scr ns
@[simp] theorem backR_val {d : D} : backR (.val d) = .val d := rfl
@[simp] theorem backR_src : backR .src = .src := rfl
@[simp] theorem fCall_eq {F : Fn} {ρ : Stt → Option (List A × Stt)} : fCall F ρ st = (ρ st).bind fun p => (F p.1 p.2.S).map fun q => (backR q.1, { p.2 with S := q.2 }) := rfl
@[simp] theorem fBl_eq {cd : List D → Option R} {ρ : PhL} : fBl cd ρ st = (ρ st).bind fun p => (cd p.1).map fun r => (r, p.2) := rfl
@[simp] theorem fSeq_eq : fSeq φ st = (fV φ st).bind fun p => (seqItems p.1).map fun xs => (xs, p.2) := rfl
@[simp] theorem fEnum_eq : fEnum φ st = (fV φ st).bind fun p => (seqItems p.1).map fun xs => (enumD xs, p.2) := rfl
@[simp] theorem seqItems_l {xs : List D} : seqItems (.list xs) = some xs := rfl
@[simp] theorem seqItems_t {xs : List D} : seqItems (.tuple xs) = some xs := rfl
@[simp] theorem fRng_eq {ρ : PhL} : fRng ρ st = (ρ st).bind fun p => (rngD p.1).map fun xs => (xs, p.2) := by
  have h : ∀ g : Stt → Option (List D × Stt), g = (fun st => (ρ st).bind fun p => (rngD p.1).map fun xs => (xs, p.2)) → g st = (ρ st).bind fun p => (rngD p.1).map fun xs => (xs, p.2) := fun g e => by subst e; rfl
  exact h _ rfl
@[simp] theorem fLc_eq {own : List Nat} {tg : Tg} {φi : PhL} {φc : Stt → Option (Bool × Stt)} {φe : Stt → Option (D × Stt)} : fLc own tg φi φc φe st = (φi st).bind fun p => (lcLoop own tg φc φe p.1 [] p.2).map fun q => (.new q.1, q.2) := rfl
def keepR : R → Stt → Option (R × Stt)
  | .bor i, st => (toV (.bor i) st).map fun q => (.val q.1, q.2)
  | .scr _, _ => none
  | .val d, st => some (.val d, st)
  | .new ds, st => some (.new ds, st)
  | .src, st => some (.src, st)
@[simp] theorem keepR_bor {i : Nat} {st : Stt} : keepR (.bor i) st = (toV (.bor i) st).map fun q => (.val q.1, q.2) := rfl
@[simp] theorem keepR_val {d : D} {st : Stt} : keepR (.val d) st = some (.val d, st) := rfl
@[simp] theorem keepR_new {ds : List D} {st : Stt} : keepR (.new ds) st = some (.new ds, st) := rfl
@[simp] theorem keepR_src {st : Stt} : keepR .src st = some (.src, st) := rfl
@[simp] theorem fK_eq : fK φ st = (φ st).bind fun p => keepR p.1 p.2 := by
  unfold fK
  congr 1
  funext p
  obtain ⟨r, s⟩ := p
  cases r <;> rfl
@[simp] theorem fKs_nil : fKs [] st = some ([], st) := rfl
@[simp] theorem fKs_cons {φs : List Ph} : fKs (φ :: φs) st = (fK φ st).bind fun p => (fKs φs p.2).map fun q => (p.1 :: q.1, q.2) := rfl
@[simp] theorem svOf_val {d : D} : svOf (.val d) = .val d := rfl
@[simp] theorem svOf_new {d : List D} : svOf (.new d) = .own d := rfl
@[simp] theorem svOf_src : svOf .src = .src := rfl
@[simp] theorem asgL_nil : asgL [] [] st = some st := rfl
@[simp] theorem asgL_cons {is : List Nat} {r : R} {rs : List R} : asgL (i :: is) (r :: rs) st = asgL is rs (setS st i (svOf r)) := rfl
@[simp] theorem setS_eq {x : SV} : setS ⟨γ, S⟩ i x = ⟨γ.set i x, S⟩ := rfl
@[simp] theorem gNext_eq {o : Option Stt} : gNext o = o.map fun st => (.nx, st) := rfl
def seqO (ψ : Pst) : Out → Stt → Option (Out × Stt)
  | .nx, st => ψ st
  | .rt a, st => some (.rt a, st)
  | .bk, st => some (.bk, st)
  | .ct, st => some (.ct, st)
@[simp] theorem seqO_nx {ψ : Pst} {st : Stt} : seqO ψ .nx st = ψ st := rfl
@[simp] theorem seqO_rt {ψ : Pst} {a : A} {st : Stt} : seqO ψ (.rt a) st = some (.rt a, st) := rfl
@[simp] theorem seqO_bk {ψ : Pst} {st : Stt} : seqO ψ .bk st = some (.bk, st) := rfl
@[simp] theorem seqO_ct {ψ : Pst} {st : Stt} : seqO ψ .ct st = some (.ct, st) := rfl
@[simp] theorem gSeq_eq {φ ψ : Pst} : gSeq φ ψ st = (φ st).bind fun p => seqO ψ p.1 p.2 := by
  unfold gSeq
  congr 1
  funext p
  obtain ⟨r, s⟩ := p
  cases r <;> rfl
@[simp] theorem gPar_eq {is : List Nat} {ρ : Stt → Option (List R × Stt)} : gPar is ρ st = (ρ st).bind fun p => (asgL is p.1 p.2).map fun st => (.nx, st) := rfl
@[simp] theorem gAsgT_eq {tg : Tg} {ρ : Stt → Option (D × Stt)} : gAsgT tg ρ st = (ρ st).bind fun p => (bindT tg p.1 p.2.γ).map fun γ => (.nx, ⟨γ, p.2.S⟩) := by
  unfold gAsgT gNext
  congr 1
  funext p
  cases bindT tg p.1 p.2.γ <;> rfl
def ownS : Option SV → Option (List D)
  | some (.own ds) => some ds
  | _ => none
@[simp] theorem ownS_own {ds : List D} : ownS (some (.own ds)) = some ds := rfl
@[simp] theorem ownAt_eq' : ownAt ⟨γ, S⟩ i = ownS γ[i]? := by
  unfold ownAt
  dsimp only
  cases h : γ[i]? with
  | none => rfl
  | some x => cases x <;> rfl
@[simp] theorem gSetI_eq {φi : Stt → Option (Int × Stt)} {ρ : Stt → Option (D × Stt)} : gSetI i φi ρ st = (ρ st).bind fun p => (ownAt p.2 i).bind fun _ => (φi p.2).bind fun q => (ownAt q.2 i).bind fun ds => (ixN ds.length q.1).map fun j => (.nx, setS q.2 i (.own (ds.set j p.1))) := rfl
@[simp] theorem gApp_eq {ρ : Stt → Option (D × Stt)} : gApp i ρ st = (ownAt st i).bind fun _ => (ρ st).bind fun p => (ownAt p.2 i).bind fun ds => if ds.length < most then some (.nx, setS p.2 i (.own (ds ++ [p.1]))) else none := rfl
@[simp] theorem gPop_eq : gPop i st = (ownAt st i).bind fun ds => if ds = [] then none else some (.nx, setS st i (.own ds.dropLast)) := rfl
@[simp] theorem gRet_eq {ρ : Stt → Option (A × Stt)} : gRet ρ st = (ρ st).map fun p => (.rt p.1, p.2) := rfl
@[simp] theorem gIf_eq {ρ : Stt → Option (Bool × Stt)} {φ ψ : Pst} : gIf ρ φ ψ st = (ρ st).bind fun p => if p.1 = true then φ p.2 else ψ p.2 := rfl
@[simp] theorem gFor_eq {tg : Tg} {ρ : PhL} {φ : Pst} : gFor tg ρ φ st = (ρ st).bind fun p => forF tg φ p.1 p.2 := rfl
@[simp] theorem bindT_name {d : D} : bindT (.name i) d γ = some (γ.set i (.val d)) := rfl
@[simp] theorem bindT_tup {ts : List Tg} {ds : List D} : bindT (.tup ts) (.tuple ds) γ = bindTs ts ds γ := rfl
@[simp] theorem bindT_lst {ts : List Tg} {ds : List D} : bindT (.tup ts) (.list ds) γ = bindTs ts ds γ := rfl
@[simp] theorem bindTs_nil : bindTs [] [] γ = some γ := rfl
@[simp] theorem bindTs_cons {t : Tg} {ts : List Tg} {d : D} {ds : List D} : bindTs (t :: ts) (d :: ds) γ = (bindT t d γ).bind (bindTs ts ds) := rfl
@[simp] theorem slA_val {d : D} : slA (.val d) = .val d := rfl
@[simp] theorem slA_src : slA .src = .src := rfl
@[simp] theorem slA_scr {ns : List Int} : slA (.scr ns) = .scr ns := rfl
end
def finO : Out → Stt → Option (A × Option Src)
  | .rt a, st => some (a, st.S)
  | .nx, st => some (.val .none, st.S)
  | _, _ => none
@[simp] theorem finO_rt {a : A} {st : Stt} : finO (.rt a) st = some (a, st.S) := rfl
@[simp] theorem finO_nx {st : Stt} : finO .nx st = some (.val .none, st.S) := rfl
@[simp] theorem evFn_eq {np ns : Nat} {b : List Stm} {args : List A} {S : Option Src} (h : args.length = np) : evFn Φ C n np ns b args S = (exB Φ C n b ⟨args.map slA ++ List.replicate (ns - np) .un, S⟩).bind fun p => finO p.1 p.2 := by
  unfold evFn
  rw [if_pos h]
  congr 1
  funext p
  obtain ⟨r, s⟩ := p
  cases r <;> rfl
end
/-! data -/
@[simp] theorem add_int {a b : Int} : bopD .add (.int a) (.int b) = some (.val (.int (a + b))) := rfl
@[simp] theorem sub_int {a b : Int} : bopD .sub (.int a) (.int b) = some (.val (.int (a - b))) := rfl
@[simp] theorem neg_int {a : Int} : negD (.int a) = some (.val (.int (-a))) := rfl
theorem mul_int {a b : Int} (h : bits a + bits b < 1000000 ∨ a.natAbs < 2 ^ 64 ∨ b.natAbs < 2 ^ 64) : bopD .mul (.int a) (.int b) = some (.val (.int (a * b))) := if_pos h
theorem fdiv_int {a b : Int} (h : b ≠ 0 ∧ bits b < 9000) : bopD .fdiv (.int a) (.int b) = some (.val (.int (a.fdiv b))) := if_pos h
theorem mod_int {a b : Int} (h : b ≠ 0) : bopD .mod (.int a) (.int b) = some (.val (.int (a.fmod b))) := if_pos h
@[simp] theorem lt_int {a b : Int} : copD .lt (.int a) (.int b) = some (.val (.bool (decide (a < b)))) := rfl
@[simp] theorem le_int {a b : Int} : copD .le (.int a) (.int b) = some (.val (.bool (decide (a ≤ b)))) := rfl
@[simp] theorem gt_int {a b : Int} : copD .gt (.int a) (.int b) = some (.val (.bool (decide (b < a)))) := rfl
@[simp] theorem ge_int {a b : Int} : copD .ge (.int a) (.int b) = some (.val (.bool (decide (b ≤ a)))) := rfl
@[simp] theorem most_eq : most = 1000000 := rfl
end DE

set_option Elab.async false
set_option linter.all false
set_option maxRecDepth 100000
set_option maxHeartbeats 4000000
set_option autoImplicit false
/-! A constant of constants: a pair of pairs. -/
namespace DE
open PySem PySem.Spec PyProof.Rows L2
/-- a pair of ints at an address -/
def PairAt (K : PySem.W.Frag) (a : Addr) (i j : Int) : Prop := ∃ (ti tj : Tok) (n : Nat) (sl : Array (Option Value)), K.lookup a = some ⟨.type "tuple", none, .seq #[.int i ti, .int j tj] n, sl⟩
def IsPP (K : PySem.W.Frag) (x : Str) (i j k l : Int) : Prop := ∃ (a a0 a1 : Addr) (n : Nat) (sl : Array (Option Value)), PySem.W.nsIn K mainGlobals x = some (some (.ref a)) ∧ K.lookup a = some ⟨.type "tuple", none, .seq #[.ref a0, .ref a1] n, sl⟩ ∧ PairAt K a0 i j ∧ PairAt K a1 k l
theorem pp_mk {K : PySem.W.Frag} {x : Str} {i j k l : Int} {a a0 a1 : Addr} {ti tj tk tl : Tok} {n n0 n1 : Nat} {sl s0 s1 : Array (Option Value)} (h : PySem.W.nsIn K mainGlobals x = some (some (.ref a))) (h1 : K.lookup a = some ⟨.type "tuple", none, .seq #[.ref a0, .ref a1] n, sl⟩)
    (h2 : K.lookup a0 = some ⟨.type "tuple", none, .seq #[.int i ti, .int j tj] n0, s0⟩) (h3 : K.lookup a1 = some ⟨.type "tuple", none, .seq #[.int k tk, .int l tl] n1, s1⟩) : IsPP K x i j k l :=
  ⟨a, a0, a1, n, sl, h, h1, ⟨ti, tj, n0, s0, h2⟩, ⟨tk, tl, n1, s1, h3⟩⟩
section
variable {K : PySem.W.Frag} {mg : Str → Option Value} {h : Heap}
theorem pair_en {a : Addr} {i j : Int} (p : PairAt K a i j) (G : Hp) : En K G (.ref a) (.tuple [.int i, .int j]) := by
  obtain ⟨ti, tj, n, sl, h2⟩ := p
  refine .tup (xs := [.int i, .int j]) (.inr ⟨_, _, n, h2, rfl, rfl, ?_, ?_⟩) (.cons (.int i) (.cons (.int j) .nil))
  · show 2 ≤ sizeLine; decide
  · exact .cons ⟨ti, rfl⟩ (.cons ⟨tj, rfl⟩ .nil)
theorem pp_cst {x : Str} {i j k l : Int} (inK : K.In h) (G : h.Ns mainGlobals mg) (p : IsPP K x i j k l) : ∃ v u, mg x = some u ∧ RelV v u ∧ ∀ G, En K G v (.tuple [.tuple [.int i, .int j], .tuple [.int k, .int l]]) := by
  obtain ⟨a, a0, a1, n, sl, h1, h2, p0, p1⟩ := p
  refine ⟨.ref a, _, PySem.W.mg_of inK G h1, rfl, fun G => .tup (xs := [.ref a0, .ref a1]) (.inr ⟨_, _, n, h2, rfl, rfl, ?_, ?_⟩) (.cons (pair_en p0 G) (.cons (pair_en p1 G) .nil))⟩
  · show 2 ≤ sizeLine; decide
  · exact .cons rfl (.cons rfl .nil)
end
end DE

set_option Elab.async false
set_option linter.all false
set_option maxRecDepth 100000
set_option maxHeartbeats 4000000
set_option autoImplicit false
/-! Fractions as pairs of ints. -/
namespace DE
open PySem

def dQ (x : Rat) : D := .tuple [.int x.num, .int (x.den : Nat)]
def g2 (p q : Int) : Int := (Nat.gcd p.natAbs q.natAbs : Nat)
theorem g2_pos {p q : Int} (hq : q ≠ 0) : 0 < g2 p q := by
  unfold g2
  have : 0 < Nat.gcd p.natAbs q.natAbs := Nat.gcd_pos_of_pos_right _ (by omega)
  omega
theorem g2_dvd_l (p q : Int) : g2 p q ∣ p := by
  unfold g2; exact Int.ofNat_dvd_left.mpr (Nat.gcd_dvd_left _ _)
theorem g2_dvd_r (p q : Int) : g2 p q ∣ q := by
  unfold g2; exact Int.ofNat_dvd_left.mpr (Nat.gcd_dvd_right _ _)
theorem log2_mono {a b : Nat} (h : a ≤ b) : a.log2 ≤ b.log2 := by
  by_cases ha : a = 0
  · subst ha; simp
  · exact (Nat.le_log2 (by omega)).mpr (Nat.le_trans ((Nat.le_log2 ha).mp (Nat.le_refl _)) h)
theorem bits_of_lt {a : Int} {n : Nat} (h : a.natAbs < 2 ^ n) (hn : 0 < n) : bits a < n := by
  unfold bits
  by_cases ha : a.natAbs = 0
  · rw [ha]; simpa using hn
  · exact (Nat.log2_lt ha).mpr h
theorem bits_g2 {p q : Int} (hq : q ≠ 0) : bits (g2 p q) ≤ bits q := by
  unfold bits g2
  exact log2_mono (by simpa using Nat.gcd_le_right p.natAbs (by omega : 0 < q.natAbs))
theorem bits_neg (a : Int) : bits (-a) = bits a := by unfold bits; rw [Int.natAbs_neg]

/-- p / q in lowest terms, as both of the program's ways give it -/
theorem low_pos {p q : Int} (hq : 0 < q) : (Rat.divInt p q).num = p / g2 p q ∧ (((Rat.divInt p q).den : Nat) : Int) = q / g2 p q := by
  have e : (q.gcd p : Nat) = Nat.gcd p.natAbs q.natAbs := by rw [Int.gcd, Nat.gcd_comm]
  constructor
  · rw [Rat.num_divInt, Int.sign_eq_one_of_pos hq, Int.one_mul, e]; rfl
  · rw [Rat.den_divInt, if_neg (by omega), e, Int.natCast_ediv]
    unfold g2
    have : ((q.natAbs : Nat) : Int) = q := by omega
    rw [this]
theorem low_neg {p q : Int} (hq : q < 0) : (Rat.divInt p q).num = p.fdiv (-(g2 p q)) ∧ (((Rat.divInt p q).den : Nat) : Int) = q.fdiv (-(g2 p q)) := by
  have hp : 0 < -q := by omega
  have h := low_pos (p := -p) hp
  rw [Rat.neg_divInt_neg] at h
  have e : g2 (-p) (-q) = g2 p q := by unfold g2; rw [Int.natAbs_neg, Int.natAbs_neg]
  rw [e] at h
  have key : ∀ x : Int, g2 p q ∣ x → x.fdiv (-(g2 p q)) = (-x) / g2 p q := fun x hx => by
    obtain ⟨c, rfl⟩ := hx
    have hg := g2_pos (p := p) (q := q) (by omega)
    have e1 : g2 p q * c = (-c) * (-(g2 p q)) := by rw [Int.neg_mul_neg, Int.mul_comm]
    have e2 : -(g2 p q * c) = (-c) * g2 p q := by rw [Int.neg_mul, Int.mul_comm]
    rw [e2, Int.mul_ediv_cancel _ (by omega), e1, Int.mul_fdiv_cancel _ (by omega)]
  exact ⟨by rw [h.1, key p (g2_dvd_l p q)], by rw [h.2, key q (g2_dvd_r p q)]⟩
theorem dQ_low {p q : Int} (hq : q ≠ 0) : dQ (Rat.divInt p q) = .tuple [.int (p.fdiv (if 0 < q then g2 p q else -(g2 p q))), .int (q.fdiv (if 0 < q then g2 p q else -(g2 p q)))] := by
  unfold dQ
  by_cases h : 0 < q
  · obtain ⟨h1, h2⟩ := low_pos (p := p) h
    have hg := g2_pos (p := p) hq
    rw [if_pos h, h1, h2, Int.fdiv_eq_ediv_of_nonneg _ (by omega), Int.fdiv_eq_ediv_of_nonneg _ (by omega)]
  · obtain ⟨h1, h2⟩ := low_neg (p := p) (q := q) (by omega)
    rw [if_neg h, h1, h2]
theorem dQ_inj {x y : Rat} (h : dQ x = dQ y) : x = y := by
  unfold dQ at h
  simp only [PyData.tuple.injEq, List.cons.injEq, PyData.int.injEq, Int.natCast_inj, and_true] at h
  exact Rat.ext h.1 h.2
theorem low_add (x y : Rat) : Rat.divInt (x.num * y.den + y.num * x.den) ((x.den : Int) * y.den) = x + y := by
  rw [Rat.add_def', ← Int.natCast_mul, Rat.divInt_ofNat]
theorem low_mul (x y : Rat) : Rat.divInt (x.num * y.num) ((x.den : Int) * y.den) = x * y := by
  rw [Rat.mul_def', ← Int.natCast_mul, Rat.divInt_ofNat]
theorem low_div (x y : Rat) : Rat.divInt (x.num * y.den) ((x.den : Int) * y.num) = x / y := by
  rw [Rat.div_def, Rat.inv_def, ← Rat.divInt_mul_divInt, Rat.num_divInt_den]
theorem den_ne (x : Rat) : (x.den : Int) ≠ 0 := by have := x.den_nz; omega
theorem den_pos (x : Rat) : 0 < (x.den : Int) := by have := x.den_pos; omega
theorem num_ne {x : Rat} (h : x ≠ 0) : x.num ≠ 0 := fun z => h (Rat.num_eq_zero.mp z)

/-! sizes -/
/-- numerator and denominator below 2 ^ n -/
def Hb (n : Nat) (x : Rat) : Prop := x.num.natAbs < 2 ^ n ∧ x.den < 2 ^ n
theorem Hb.mono {n m : Nat} {x : Rat} (h : Hb n x) (hm : n ≤ m) : Hb m x :=
  ⟨Nat.lt_of_lt_of_le h.1 (Nat.pow_le_pow_right (by decide) hm), Nat.lt_of_lt_of_le h.2 (Nat.pow_le_pow_right (by decide) hm)⟩
theorem natAbs_mul_lt {a b : Int} {n m : Nat} (ha : a.natAbs < 2 ^ n) (hb : b.natAbs < 2 ^ m) : (a * b).natAbs < 2 ^ (n + m) := by
  rw [Int.natAbs_mul, Nat.pow_add]
  exact Nat.mul_lt_mul'' ha hb
theorem natAbs_div_lt {p q : Int} {n : Nat} (h : p.natAbs < 2 ^ n) (hq : q ≠ 0) : (Rat.divInt p q).num.natAbs < 2 ^ n := by
  rw [Rat.num_divInt]
  refine Nat.lt_of_le_of_lt ?_ h
  refine Nat.le_trans (Int.natAbs_ediv_le_natAbs _ _) ?_
  rw [Int.natAbs_mul, Int.natAbs_sign_of_ne_zero hq, Nat.one_mul]
  exact Nat.le_refl _
theorem den_div_lt {p q : Int} {n : Nat} (h : q.natAbs < 2 ^ n) (hq : q ≠ 0) : (Rat.divInt p q).den < 2 ^ n := by
  rw [Rat.den_divInt, if_neg hq]
  exact Nat.lt_of_le_of_lt (Nat.div_le_self _ _) h
theorem Hb.div {p q : Int} {n : Nat} (h1 : p.natAbs < 2 ^ n) (h2 : q.natAbs < 2 ^ n) (hq : q ≠ 0) : Hb n (Rat.divInt p q) := ⟨natAbs_div_lt h1 hq, den_div_lt h2 hq⟩
theorem Hb.add {x y : Rat} {n m : Nat} (hx : Hb n x) (hy : Hb m y) : Hb (n + m + 1) (x + y) := by
  rw [← low_add]
  refine Hb.div ?_ ?_ (Int.mul_ne_zero (den_ne x) (den_ne y))
  · have h1 := natAbs_mul_lt (b := (y.den : Int)) hx.1 (m := m) (by simpa using hy.2)
    have h2 := natAbs_mul_lt (b := (x.den : Int)) hy.1 (m := n) (by simpa using hx.2)
    rw [Nat.add_comm m n] at h2
    have h3 := Int.natAbs_add_le (x.num * y.den) (y.num * x.den)
    rw [Nat.pow_succ]
    omega
  · have h1 := natAbs_mul_lt (a := (x.den : Int)) (b := (y.den : Int)) (n := n) (m := m) (by simpa using hx.2) (by simpa using hy.2)
    rw [Nat.pow_succ]
    omega
theorem Hb.mul {x y : Rat} {n m : Nat} (hx : Hb n x) (hy : Hb m y) : Hb (n + m) (x * y) := by
  rw [← low_mul]
  exact Hb.div (natAbs_mul_lt hx.1 hy.1) (natAbs_mul_lt (by simpa using hx.2) (by simpa using hy.2)) (Int.mul_ne_zero (den_ne x) (den_ne y))
theorem Hb.neg {x : Rat} {n : Nat} (hx : Hb n x) : Hb n (-x) := ⟨by rw [Rat.neg_num, Int.natAbs_neg]; exact hx.1, by rw [Rat.neg_den]; exact hx.2⟩
theorem Hb.zero (n : Nat) (hn : 0 < n) : Hb n 0 := ⟨by simpa using Nat.two_pow_pos n, by simpa using Nat.one_lt_two_pow (by omega)⟩
end DE

set_option Elab.async false
set_option linter.all false
set_option maxRecDepth 100000
set_option maxHeartbeats 4000000
set_option exponentiation.threshold 20000
set_option autoImplicit false
/-! Data: comparing, showing. -/
namespace DE
open PySem
open L2 (ixN atI)

/-! == -/
def Nice (h : Nat) (d : D) : Prop := d.canLay0 = true ∧ d.depth ≤ h
theorem Nice.mono {h m : Nat} {d : D} (n : Nice h d) (l : h ≤ m) : Nice m d := ⟨n.1, Nat.le_trans n.2 l⟩
theorem nice_int (i : Int) : Nice 0 (.int i) := ⟨rfl, Nat.le_refl _⟩
theorem nice_none : Nice 0 .none := ⟨rfl, Nat.le_refl _⟩
theorem nice_bool (b : Bool) : Nice 0 (.bool b) := ⟨rfl, Nat.le_refl _⟩
theorem nice_all {h : Nat} : ∀ {ds : List D}, (∀ d ∈ ds, Nice h d) → PyData.canLayAll0 ds = true ∧ PyData.depthAll ds ≤ h
  | [], _ => ⟨rfl, Nat.zero_le _⟩
  | d :: ds, H => by
    obtain ⟨h1, h2⟩ := nice_all fun e he => H e (List.mem_cons_of_mem _ he)
    obtain ⟨h3, h4⟩ := H d (List.mem_cons_self ..)
    exact ⟨by simp [PyData.canLayAll0, h1, h3], by simp only [PyData.depthAll]; omega⟩
theorem nice_tuple {h : Nat} {ds : List D} (H : ∀ d ∈ ds, Nice h d) : Nice (h + 1) (.tuple ds) := by
  obtain ⟨h1, h2⟩ := nice_all H
  exact ⟨by simpa [PyData.canLay0] using h1, by simp only [PyData.depth]; omega⟩
theorem nice_list {h : Nat} {ds : List D} (H : ∀ d ∈ ds, Nice h d) : Nice (h + 1) (.list ds) := by
  obtain ⟨h1, h2⟩ := nice_all H
  exact ⟨by simpa [PyData.canLay0] using h1, by simp only [PyData.depth]; omega⟩
theorem Nice.shaped {h : Nat} {d : D} (n : Nice h d) (hh : h ≤ 64) : SeqAt.shaped d = true := by
  unfold SeqAt.shaped
  simp [n.1, Nat.le_trans n.2 hh]
theorem nice_dQ (x : Rat) : Nice 1 (dQ x) := nice_tuple fun d hd => by
  rcases List.mem_cons.mp hd with rfl | hd
  · exact nice_int _
  · rcases List.mem_cons.mp hd with rfl | hd
    · exact nice_int _
    · cases hd
theorem eq_tup {xs ys : List D} (h1 : SeqAt.shaped (.tuple xs) = true) (h2 : SeqAt.shaped (.tuple ys) = true) : copD .eq (.tuple xs) (.tuple ys) = some (.val (.bool (PyData.eqv (.tuple xs) (.tuple ys)))) := if_pos ⟨h1, h2⟩
theorem ne_tup {xs ys : List D} (h1 : SeqAt.shaped (.tuple xs) = true) (h2 : SeqAt.shaped (.tuple ys) = true) : copD .ne (.tuple xs) (.tuple ys) = some (.val (.bool (!PyData.eqv (.tuple xs) (.tuple ys)))) := if_pos ⟨h1, h2⟩
@[simp] theorem eq_int {a b : Int} : copD .eq (.int a) (.int b) = some (.val (.bool (decide (a = b)))) := by
  show some (R.val (.bool (PyData.eqv (.int a) (.int b)))) = _
  congr 3
@[simp] theorem ne_int {a b : Int} : copD .ne (.int a) (.int b) = some (.val (.bool (!decide (a = b)))) := by
  show some (R.val (.bool (!PyData.eqv (.int a) (.int b)))) = _
  congr 3
@[simp] theorem ne_nilL {xs : List D} : copD .ne (.list xs) (.list []) = some (.val (.bool (decide (xs ≠ [])))) := by
  show (if xs.length ≠ ([] : List D).length then _ else _) = _
  cases xs with
  | nil => rfl
  | cons a b => simp
@[simp] theorem eq_nilL {xs : List D} : copD .eq (.list xs) (.list []) = some (.val (.bool (decide (xs = [])))) := by
  show (if xs.length ≠ ([] : List D).length then _ else _) = _
  cases xs with
  | nil => rfl
  | cons a b => simp
theorem eqv_tup {xs ys : List D} : PyData.eqv (.tuple xs) (.tuple ys) = PyData.eqvAll xs ys := by simp [PyData.eqv]
theorem eqv_dQ (x y : Rat) : PyData.eqv (dQ x) (dQ y) = decide (x = y) := by
  unfold dQ
  rw [eqv_tup]
  simp only [PyData.eqvAll, PyData.eqv, Bool.and_true]
  by_cases h : x = y
  · subst h; simp
  · have : ¬(x.num = y.num ∧ (x.den : Int) = y.den) := fun z => h (Rat.ext z.1 (by omega))
    simp only [h, decide_false]
    by_cases h1 : x.num = y.num
    · have h2 : ¬ ((x.den : Int) = y.den) := fun z => this ⟨h1, z⟩
      simp [h1, h2]
    · simp [h1]
theorem eqv_dQs : ∀ f g : List Rat, PyData.eqvAll (f.map dQ) (g.map dQ) = decide (f = g)
  | [], [] => by simp [PyData.eqvAll]
  | [], _ :: _ => by simp [PyData.eqvAll]
  | _ :: _, [] => by simp [PyData.eqvAll]
  | x :: f, y :: g => by
    simp only [List.map_cons, PyData.eqvAll, eqv_dQ, eqv_dQs f g, List.cons.injEq, Bool.decide_and]
@[simp] theorem eq_dQ {x y : Rat} : copD .eq (dQ x) (dQ y) = some (.val (.bool (decide (x = y)))) := by
  have h := eq_tup ((nice_dQ x).shaped (by decide)) ((nice_dQ y).shaped (by decide))
  have e := eqv_dQ x y
  unfold dQ at h e ⊢
  rw [h, e]
@[simp] theorem ne_dQ {x y : Rat} : copD .ne (dQ x) (dQ y) = some (.val (.bool (!decide (x = y)))) := by
  have h := ne_tup ((nice_dQ x).shaped (by decide)) ((nice_dQ y).shaped (by decide))
  have e := eqv_dQ x y
  unfold dQ at h e ⊢
  rw [h, e]
def dP (f : List Rat) : D := .tuple (f.map dQ)
theorem nice_dP (f : List Rat) : Nice 2 (dP f) := nice_tuple fun d hd => by
  obtain ⟨x, _, rfl⟩ := List.mem_map.mp hd
  exact nice_dQ x
@[simp] theorem eq_dP {f g : List Rat} : copD .eq (dP f) (dP g) = some (.val (.bool (decide (f = g)))) := by
  have h := eq_tup ((nice_dP f).shaped (by decide)) ((nice_dP g).shaped (by decide))
  unfold dP at h ⊢
  rw [h, eqv_tup, eqv_dQs]
@[simp] theorem ne_dP {f g : List Rat} : copD .ne (dP f) (dP g) = some (.val (.bool (!decide (f = g)))) := by
  have h := ne_tup ((nice_dP f).shaped (by decide)) ((nice_dP g).shaped (by decide))
  unfold dP at h ⊢
  rw [h, eqv_tup, eqv_dQs]

/-! repr -/
/-- may be shown, in at most n signs, at depth h -/
structure Rp (n h : Nat) (d : D) : Prop where
  ok : d.showable = true
  len : d.shown.length ≤ n
  dep : d.depth ≤ h
theorem Rp.mono {n m h l : Nat} {d : D} (r : Rp n h d) (h1 : n ≤ m) (h2 : h ≤ l) : Rp m l d := ⟨r.ok, Nat.le_trans r.len h1, Nat.le_trans r.dep h2⟩
theorem rp_int {i : Int} (h : i.natAbs < 2 ^ 1900) : Rp 700 0 (.int i) := by
  refine ⟨by simp only [PyData.showable, decide_eq_true_eq]; exact Nat.lt_trans (bits_of_lt h (by decide)) (by decide), ?_, Nat.le_refl _⟩
  have e := int_text_length_le10 (k := 600) (by decide) (Nat.lt_trans h (by decide +kernel))
  show (Str.ofString (toString i)).length ≤ 700
  rw [ofString_length]; omega
theorem rp_none : Rp 700 0 .none := ⟨rfl, by decide +kernel, Nat.le_refl _⟩
theorem rp_bool (b : Bool) : Rp 700 0 (.bool b) := by cases b <;> exact ⟨rfl, by decide +kernel, Nat.le_refl _⟩
theorem rp_str {x : Str} (h : (reprText x).length ≤ 700) : Rp 700 0 (.str x) := ⟨rfl, by simpa [PyData.shown] using h, Nat.le_refl _⟩
theorem rp_all {n h : Nat} : ∀ {ds : List D}, (∀ d ∈ ds, Rp n h d) → PyData.showableAll ds = true ∧ ((PyData.shownAll ds).map (·.length)).sum ≤ n * ds.length ∧ PyData.depthAll ds ≤ h ∧ (PyData.shownAll ds).length = ds.length
  | [], _ => ⟨rfl, Nat.zero_le _, Nat.zero_le _, rfl⟩
  | d :: ds, H => by
    obtain ⟨h1, h2, h3, h4⟩ := rp_all fun e he => H e (List.mem_cons_of_mem _ he)
    obtain ⟨h5, h6, h7⟩ := H d (List.mem_cons_self ..)
    refine ⟨by simp [PyData.showableAll, h1, h5], ?_, by simp only [PyData.depthAll]; omega, by simp [PyData.shownAll, h4]⟩
    simp only [PyData.shownAll, List.map_cons, List.sum_cons, List.length_cons, Nat.mul_succ]
    omega
theorem rp_tuple {n h m : Nat} {ds : List D} (H : ∀ d ∈ ds, Rp n h d) (hm : (n + 2) * ds.length + 3 ≤ m) : Rp m (h + 1) (.tuple ds) := by
  obtain ⟨h1, h2, h3, h4⟩ := rp_all H
  refine ⟨by simpa [PyData.showable] using h1, ?_, by simp only [PyData.depth]; omega⟩
  have := tupleText_len_le (PyData.shownAll ds)
  simp only [PyData.shown]
  rw [h4] at this
  rw [Nat.add_mul] at hm
  omega
theorem rp_list {n h m : Nat} {ds : List D} (H : ∀ d ∈ ds, Rp n h d) (hm : (n + 2) * ds.length + 3 ≤ m) : Rp m (h + 1) (.list ds) := by
  obtain ⟨h1, h2, h3, h4⟩ := rp_all H
  refine ⟨by simpa [PyData.showable] using h1, ?_, by simp only [PyData.depth]; omega⟩
  have := listText_len_le (PyData.shownAll ds)
  simp only [PyData.shown]
  rw [h4] at this
  rw [Nat.add_mul] at hm
  omega
theorem repr_eq {n h : Nat} {d : D} (r : Rp n h d) (hn : n ≤ 1000000) (hh : h ≤ 60) (hd : d.hasDict = false ∨ noLst d = true) : blD .repr [d] = some (.val (.str d.shown)) := if_pos ⟨r.ok, Nat.le_trans r.dep hh, Nat.le_trans r.len hn, hd⟩
theorem Nice.noDict {h : Nat} {d : D} (n : Nice h d) : d.hasDict = false := PyData.hasDict_of_canLay d n.1
theorem rp_dQ {x : Rat} (h : Hb 1900 x) : Rp 1407 1 (dQ x) := rp_tuple (n := 700) (fun d hd => by
  rcases List.mem_cons.mp hd with rfl | hd
  · exact rp_int h.1
  · rcases List.mem_cons.mp hd with rfl | hd
    · exact rp_int (by simpa using h.2)
    · cases hd) (by show 702 * 2 + 3 ≤ 1407; decide)
theorem rp_dP {f : List Rat} (h : ∀ x ∈ f, Hb 1900 x) (hl : f.length ≤ 60) : Rp 90000 2 (dP f) := rp_tuple (n := 1407) (fun d hd => by
  obtain ⟨x, hx, rfl⟩ := List.mem_map.mp hd
  exact rp_dQ (h x hx)) (by rw [List.length_map]; omega)

/-! indices -/
theorem ixN_nat {n i : Nat} (h : i < n) : ixN n (i : Int) = some i := by
  unfold ixN
  rw [if_pos (by omega), if_pos (by omega)]
  simp
theorem ixN_last {n : Nat} (h : 0 < n) : ixN n (-1) = some (n - 1) := by
  unfold ixN
  rw [if_neg (by decide), if_pos (by omega)]
  congr 1
  omega
theorem ix_tup {xs : List D} {i : Nat} {d : D} (h : xs[i]? = some d) : ixD (.tuple xs) (.int i) = some (.val d) := by
  have hi := (List.getElem?_eq_some_iff.mp h).1
  show (atI xs i).map R.val = _
  unfold atI
  rw [ixN_nat hi, Option.bind_some, h]; rfl
theorem ix_lst {xs : List D} {i : Nat} {d : D} (h : xs[i]? = some d) : ixD (.list xs) (.int i) = some (.val d) := by
  have hi := (List.getElem?_eq_some_iff.mp h).1
  show (atI xs i).map R.val = _
  unfold atI
  rw [ixN_nat hi, Option.bind_some, h]; rfl
theorem ix_last {xs : List D} {d : D} (h : xs.getLast? = some d) : ixD (.tuple xs) (.int (-1)) = some (.val d) := by
  have hp : 0 < xs.length := by cases xs <;> simp at h ⊢
  show (atI xs (-1)).map R.val = _
  unfold atI
  rw [ixN_last hp, Option.bind_some, ← List.getLast?_eq_getElem?, h]; rfl
theorem ix_lastL {xs : List D} {d : D} (h : xs.getLast? = some d) : ixD (.list xs) (.int (-1)) = some (.val d) := by
  have hp : 0 < xs.length := by cases xs <;> simp at h ⊢
  show (atI xs (-1)).map R.val = _
  unfold atI
  rw [ixN_last hp, Option.bind_some, ← List.getLast?_eq_getElem?, h]; rfl
theorem dP_last {f : List Rat} (h : f ≠ []) : ixD (dP f) (.int (-1)) = some (.val (dQ (f.getLast h))) := ix_last (by rw [List.getLast?_map, List.getLast?_eq_some_getLast h]; rfl)
@[simp] theorem isB_dP {f : List Rat} : isB .tuple (dP f) = true := rfl
@[simp] theorem isB_dQ {x : Rat} : isB .tuple (dQ x) = true := rfl
@[simp] theorem isB_tup {xs : List D} : isB .tuple (.tuple xs) = true := rfl
@[simp] theorem isB_lst {xs : List D} : isB .tuple (.list xs) = false := rfl
@[simp] theorem isB_int {i : Int} : isB .int (.int i) = true := rfl
@[simp] theorem isB_int2 {i : Int} : isB .bool (.int i) = false := rfl
@[simp] theorem isB_int3 {i : Int} : isB .tuple (.int i) = false := rfl
@[simp] theorem isB_int4 {xs : List D} : isB .int (.tuple xs) = false := rfl
@[simp] theorem isB_int5 {f : List Rat} : isB .int (dP f) = false := rfl
@[simp] theorem isB_int6 {f : Rat} : isB .int (dQ f) = false := rfl
@[simp] theorem seqItems_dP {f : List Rat} : seqItems (dP f) = some (f.map dQ) := rfl
@[simp] theorem len_dP {f : List Rat} : blD .len [dP f] = some (.val (.int f.length)) := by
  show some (R.val (.int ((f.map dQ).length : Nat))) = _
  rw [List.length_map]
@[simp] theorem len_dQ {x : Rat} : blD .len [dQ x] = some (.val (.int 2)) := rfl
theorem tup_dP (f : List Rat) : PyData.tuple (f.map dQ) = dP f := rfl
theorem nil_dP : PyData.tuple [] = dP [] := rfl
theorem add_lst {xs ys : List D} (h : xs.length + ys.length ≤ 1000000) : bopD .add (.list xs) (.list ys) = some (.new (xs ++ ys)) := if_pos h
theorem add_tup {xs ys : List D} (h : xs.length + ys.length ≤ 1000000) : bopD .add (.tuple xs) (.tuple ys) = some (.val (.tuple (xs ++ ys))) := if_pos h
theorem mul_lst {xs : List D} {n : Nat} (h : n ≤ 1000000) (h2 : xs.length * n ≤ 1000000) : bopD .mul (.list xs) (.int (n : Int)) = some (.new (List.replicate n xs).flatten) := by
  show (if _ then _ else _) = _
  have hm : most = 1000000 := rfl
  rw [if_pos ⟨by omega, by omega, by simpa using h2⟩]
  simp
theorem mul_tup {xs : List D} {n : Nat} (h : n ≤ 1000) (h2 : xs.length ≤ 1000) : bopD .mul (.tuple xs) (.int (n : Int)) = some (.val (.tuple (List.replicate n xs).flatten)) := by
  show (if _ then _ else _) = _
  rw [if_pos ⟨by omega, by omega, h2⟩]
  simp
theorem rep_one' {α : Type} (n : Nat) (a : α) : (List.replicate n [a]).flatten = List.replicate n a := by
  induction n with
  | zero => rfl
  | succ n ih => rw [List.replicate_succ, List.flatten_cons, ih]; rfl
def zipO : D → D → Option (List D)
  | .list xs, .list ys => some (zipD xs ys)
  | .tuple xs, .tuple ys => some (zipD xs ys)
  | _, _ => none
@[simp] theorem zipO_l {xs ys : List D} : zipO (.list xs) (.list ys) = some (zipD xs ys) := rfl
@[simp] theorem zipO_t {xs ys : List D} : zipO (.tuple xs) (.tuple ys) = some (zipD xs ys) := rfl
@[simp] theorem fZip_eq {φ ψ : Ph} {st : Stt} : fZip φ ψ st = (fV φ st).bind fun p => (fV ψ p.2).bind fun q => (zipO p.1 q.1).map fun xs => (xs, q.2) := by
  unfold fZip
  congr 1
  funext p
  congr 1
  funext q
  obtain ⟨d, s⟩ := p
  obtain ⟨e, s'⟩ := q
  cases d <;> cases e <;> rfl
theorem zip_map {ι : Type} (F G : ι → D) (l : List ι) : zipD (l.map F) (l.map G) = l.map fun i => .tuple [F i, G i] := by
  unfold zipD
  induction l with
  | nil => rfl
  | cons a l ih => simp only [List.map_cons, List.zipWith_cons_cons, ih]
theorem enum_map (ds : List D) : enumD ds = (List.range ds.length).map fun i => .tuple [.int (i : Nat), ds.getD i .none] := by
  apply List.ext_getElem?
  intro i
  by_cases hi : i < ds.length
  · rw [enumD_get (d := ds[i]) (by simp [hi])]
    simp [hi]
  · rw [List.getElem?_eq_none (by rw [enumD_length]; omega), List.getElem?_eq_none (by simp; omega)]
/-! comprehensions that leave the state as it was -/
theorem lc_pure {own : List Nat} {tg : Tg} {φc : Stt → Option (Bool × Stt)} {φe : Stt → Option (D × Stt)} {γ : List SV} {S : Option Src} (c : D → Bool) (f : D → D) : ∀ (items acc : List D),
    (∀ d ∈ items, ∃ γ1 γ2, bindT tg d (wipeG γ own) = some γ1 ∧ φc ⟨γ1, S⟩ = some (c d, ⟨γ1, S⟩) ∧ restG γ γ1 own = γ ∧ (c d = true → φe ⟨γ1, S⟩ = some (f d, ⟨γ2, S⟩) ∧ restG γ γ2 own = γ)) → acc.length + items.length ≤ most →
    lcLoop own tg φc φe items acc ⟨γ, S⟩ = some (acc ++ (items.filter c).map f, ⟨γ, S⟩)
  | [], acc, _, _ => by simp [lcLoop]
  | d :: items, acc, h, hl => by
    obtain ⟨γ1, γ2, h1, h2, h3, h4⟩ := h d (List.mem_cons_self ..)
    have hl' : acc.length + (items.length + 1) ≤ most := hl
    unfold lcLoop
    dsimp only
    rw [h1, Option.bind_some, h2, Option.bind_some]
    dsimp only
    by_cases hc : c d = true
    · obtain ⟨h5, h6⟩ := h4 hc
      rw [if_pos hc, h5, Option.bind_some]
      dsimp only
      rw [if_pos (by omega), h6, lc_pure c f items (acc ++ [f d]) (fun e he => h e (List.mem_cons_of_mem _ he)) (by rw [List.length_append]; simp only [List.length_singleton]; omega)]
      rw [List.filter_cons, if_pos hc]
      simp
    · rw [if_neg hc, h3, lc_pure c f items acc (fun e he => h e (List.mem_cons_of_mem _ he)) (by omega), List.filter_cons, if_neg hc]
theorem lc_map {own : List Nat} {tg : Tg} {φc : Stt → Option (Bool × Stt)} {φe : Stt → Option (D × Stt)} {γ : List SV} {S : Option Src} (f : D → D) (items : List D) (hc : ∀ st, φc st = some (true, st))
    (h : ∀ d ∈ items, ∃ γ1 γ2, bindT tg d (wipeG γ own) = some γ1 ∧ restG γ γ1 own = γ ∧ φe ⟨γ1, S⟩ = some (f d, ⟨γ2, S⟩) ∧ restG γ γ2 own = γ) (hl : items.length ≤ most) :
    lcLoop own tg φc φe items [] ⟨γ, S⟩ = some (items.map f, ⟨γ, S⟩) := by
  have := lc_pure (own := own) (tg := tg) (φc := φc) (φe := φe) (γ := γ) (S := S) (fun _ => true) f items [] (fun d hd => by
    obtain ⟨γ1, γ2, h1, h2, h3, h4⟩ := h d hd
    exact ⟨γ1, γ2, h1, hc _, h2, fun _ => ⟨h3, h4⟩⟩) (by simpa using hl)
  have e : items.filter (fun _ => true) = items := List.filter_eq_self.mpr (by simp)
  rw [e, List.nil_append] at this
  exact this
theorem lc_mapG {ι : Type} {own : List Nat} {tg : Tg} {φc : Stt → Option (Bool × Stt)} {φe : Stt → Option (D × Stt)} {γ : List SV} {S : Option Src} (e F : ι → D) (hc : ∀ st, φc st = some (true, st)) : ∀ (items : List ι) (acc : List D),
    (∀ i ∈ items, ∃ γ1 γ2, bindT tg (e i) (wipeG γ own) = some γ1 ∧ φe ⟨γ1, S⟩ = some (F i, ⟨γ2, S⟩) ∧ restG γ γ2 own = γ) → acc.length + items.length ≤ most →
    lcLoop own tg φc φe (items.map e) acc ⟨γ, S⟩ = some (acc ++ items.map F, ⟨γ, S⟩)
  | [], acc, _, _ => by simp [lcLoop]
  | i :: items, acc, h, hl => by
    obtain ⟨γ1, γ2, h1, h3, h4⟩ := h i (List.mem_cons_self ..)
    have hl' : acc.length + (items.length + 1) ≤ most := hl
    rw [List.map_cons]
    unfold lcLoop
    dsimp only
    rw [h1, Option.bind_some, hc, Option.bind_some]
    dsimp only
    rw [if_pos rfl, h3, Option.bind_some]
    dsimp only
    rw [if_pos (by omega), h4, lc_mapG e F hc items (acc ++ [F i]) (fun j hj => h j (List.mem_cons_of_mem _ hj)) (by rw [List.length_append]; simp only [List.length_singleton]; omega)]
    simp
theorem lc_mapG0 {ι : Type} {own : List Nat} {tg : Tg} {φc : Stt → Option (Bool × Stt)} {φe : Stt → Option (D × Stt)} {γ : List SV} {S : Option Src} (e F : ι → D) (hc : ∀ st, φc st = some (true, st)) (items : List ι)
    (h : ∀ i ∈ items, ∃ γ1 γ2, bindT tg (e i) (wipeG γ own) = some γ1 ∧ φe ⟨γ1, S⟩ = some (F i, ⟨γ2, S⟩) ∧ restG γ γ2 own = γ) (hl : items.length ≤ most) :
    lcLoop own tg φc φe (items.map e) [] ⟨γ, S⟩ = some (items.map F, ⟨γ, S⟩) := by
  have := lc_mapG (own := own) (tg := tg) (φc := φc) (φe := φe) (γ := γ) (S := S) e F hc items [] h (by simpa using hl)
  simpa using this
theorem lc_filterG {ι : Type} {own : List Nat} {tg : Tg} {φc : Stt → Option (Bool × Stt)} {φe : Stt → Option (D × Stt)} {γ : List SV} {S : Option Src} (e F : ι → D) (c : ι → Bool) : ∀ (items : List ι) (acc : List D),
    (∀ i ∈ items, ∃ γ1 γ2, bindT tg (e i) (wipeG γ own) = some γ1 ∧ φc ⟨γ1, S⟩ = some (c i, ⟨γ1, S⟩) ∧ restG γ γ1 own = γ ∧ (c i = true → φe ⟨γ1, S⟩ = some (F i, ⟨γ2, S⟩) ∧ restG γ γ2 own = γ)) → acc.length + items.length ≤ most →
    lcLoop own tg φc φe (items.map e) acc ⟨γ, S⟩ = some (acc ++ (items.filter c).map F, ⟨γ, S⟩)
  | [], acc, _, _ => by simp [lcLoop]
  | i :: items, acc, h, hl => by
    obtain ⟨γ1, γ2, h1, h2, h3, h4⟩ := h i (List.mem_cons_self ..)
    have hl' : acc.length + (items.length + 1) ≤ most := hl
    rw [List.map_cons]
    unfold lcLoop
    dsimp only
    rw [h1, Option.bind_some, h2, Option.bind_some]
    dsimp only
    by_cases hc : c i = true
    · obtain ⟨h5, h6⟩ := h4 hc
      rw [if_pos hc, h5, Option.bind_some]
      dsimp only
      rw [if_pos (by omega), h6, lc_filterG e F c items (acc ++ [F i]) (fun j hj => h j (List.mem_cons_of_mem _ hj)) (by rw [List.length_append]; simp only [List.length_singleton]; omega)]
      rw [List.filter_cons, if_pos hc]
      simp
    · rw [if_neg hc, h3, lc_filterG e F c items acc (fun j hj => h j (List.mem_cons_of_mem _ hj)) (by omega), List.filter_cons, if_neg hc]
theorem lc_filterG0 {ι : Type} {own : List Nat} {tg : Tg} {φc : Stt → Option (Bool × Stt)} {φe : Stt → Option (D × Stt)} {γ : List SV} {S : Option Src} (e F : ι → D) (c : ι → Bool) (items : List ι)
    (h : ∀ i ∈ items, ∃ γ1 γ2, bindT tg (e i) (wipeG γ own) = some γ1 ∧ φc ⟨γ1, S⟩ = some (c i, ⟨γ1, S⟩) ∧ restG γ γ1 own = γ ∧ (c i = true → φe ⟨γ1, S⟩ = some (F i, ⟨γ2, S⟩) ∧ restG γ γ2 own = γ)) (hl : items.length ≤ most) :
    lcLoop own tg φc φe (items.map e) [] ⟨γ, S⟩ = some ((items.filter c).map F, ⟨γ, S⟩) := by
  have := lc_filterG (own := own) (tg := tg) (φc := φc) (φe := φe) (γ := γ) (S := S) e F c items [] h (by simpa using hl)
  simpa using this
@[simp] theorem rng_one' {n : Nat} (h : n ≤ 1000000) : rngD [.int (n : Int)] = some ((List.range n).map fun i => .int (i : Nat)) := by
  have : -(2 ^ 62) ≤ (n : Int) ∧ (n : Int) ≤ most := by
    have : most = 1000000 := rfl
    omega
  show (if _ then _ else _) = _
  rw [if_pos this]
  simp
theorem yes_true {Φ : Nat → Fn} {C : Nat → D} (st : Stt) : fT (ev Φ C .yes) st = some (true, st) := rfl
/-- all(..) -/
theorem all_bools {bs : List Bool} : blD .all [.list (bs.map PyData.bool)] = some (.val (.bool (bs.all id))) := by
  have e : ∀ ds, blD .all [.list ds] = (boolsOf ds).map fun bs => .val (.bool (bs.all id)) := fun _ => rfl
  have b : ∀ bs : List Bool, boolsOf (bs.map PyData.bool) = some bs := by
    intro bs
    induction bs with
    | nil => rfl
    | cons b bs ih => simp [boolsOf, ih]
  rw [e, b]
  rfl
end DE

set_option Elab.async false
set_option linter.all false
set_option maxRecDepth 100000
set_option maxHeartbeats 4000000
set_option exponentiation.threshold 20000
set_option autoImplicit false
/-! Polynomials as lists of fractions. -/
namespace DE

def co (f : List Rat) (i : Nat) : Rat := f.getD i 0
@[simp] theorem co_nil (i : Nat) : co [] i = 0 := rfl
@[simp] theorem co_zero (a : Rat) (f : List Rat) : co (a :: f) 0 = a := rfl
@[simp] theorem co_succ (a : Rat) (f : List Rat) (i : Nat) : co (a :: f) (i + 1) = co f i := by simp [co]
theorem co_ge {f : List Rat} {i : Nat} (h : f.length ≤ i) : co f i = 0 := by simp [co, List.getD, h]
theorem co_lt {f : List Rat} {i : Nat} (h : i < f.length) : f[i]? = some (co f i) := by simp [co, List.getD, h]
theorem co_map {n : Nat} {F : Nat → Rat} {i : Nat} : co ((List.range n).map F) i = if i < n then F i else 0 := by
  by_cases h : i < n
  · simp [co, List.getD, h]
  · simp [co, List.getD, h]
theorem co_maps {f : List Rat} {F : Rat → Rat} (h0 : F 0 = 0) {i : Nat} : co (f.map F) i = F (co f i) := by
  by_cases h : i < f.length
  · simp [co, List.getD, h]
  · simp [co, List.getD, h, h0]
theorem list_ext {f g : List Rat} (hl : f.length = g.length) (h : ∀ i, co f i = co g i) : f = g := by
  apply List.ext_getElem? 
  intro i
  by_cases hi : i < f.length
  · rw [co_lt hi, co_lt (hl ▸ hi), h i]
  · rw [List.getElem?_eq_none (by omega), List.getElem?_eq_none (by omega)]
/-- the zeros at the end dropped -/
def trim : List Rat → List Rat
  | [] => []
  | a :: f => match trim f with
    | [] => if a = 0 then [] else [a]
    | b :: g => a :: b :: g
def Tr (f : List Rat) : Prop := f.getLast? ≠ some 0
instance (f : List Rat) : Decidable (Tr f) := by unfold Tr; infer_instance
theorem tr_nil : Tr [] := by simp [Tr]
theorem tr_cons {a b : Rat} {f : List Rat} : Tr (a :: b :: f) ↔ Tr (b :: f) := by simp [Tr, List.getLast?_cons_cons]
theorem tr_one {a : Rat} : Tr [a] ↔ a ≠ 0 := by simp [Tr]
theorem trim_tr : ∀ f : List Rat, Tr (trim f)
  | [] => tr_nil
  | a :: f => by
    have ih := trim_tr f
    unfold trim
    split
    · split
      · exact tr_nil
      · exact tr_one.mpr (by assumption)
    · rename_i b g e
      rw [e] at ih
      exact tr_cons.mpr ih
theorem trim_of_tr : ∀ {f : List Rat}, Tr f → trim f = f
  | [], _ => rfl
  | [a], h => by
    have := tr_one.mp h
    simp [trim, this]
  | a :: b :: f, h => by
    have ih := trim_of_tr (tr_cons.mp h)
    have e : trim (a :: b :: f) = match trim (b :: f) with
      | [] => if a = 0 then [] else [a]
      | b :: g => a :: b :: g := rfl
    rw [e, ih]
theorem co_trim : ∀ (f : List Rat) (i : Nat), co (trim f) i = co f i
  | [], i => rfl
  | a :: f, i => by
    have ih := co_trim f
    unfold trim
    split
    · rename_i e
      rw [e] at ih
      split
      · rename_i ha
        cases i with
        | zero => simp [ha]
        | succ i => rw [co_succ, ← ih i]; rfl
      · cases i with
        | zero => simp
        | succ i => rw [co_succ, co_succ, ← ih i]
    · rename_i b g e
      rw [e] at ih
      cases i with
      | zero => simp
      | succ i => rw [co_succ, co_succ, ih i]
theorem trim_len : ∀ f : List Rat, (trim f).length ≤ f.length
  | [] => Nat.le_refl _
  | a :: f => by
    have ih := trim_len f
    unfold trim
    split
    · split <;> simp
    · rename_i b g e
      rw [e] at ih
      simp only [List.length_cons] at ih ⊢
      omega
theorem trim_snoc : ∀ f : List Rat, trim (f ++ [0]) = trim f
  | [] => by simp [trim]
  | a :: f => by
    have ih := trim_snoc f
    have e : trim (a :: f ++ [0]) = match trim (f ++ [0]) with
      | [] => if a = 0 then [] else [a]
      | b :: g => a :: b :: g := rfl
    rw [e, ih]
    rfl
/-- the length of a trimmed list -/
theorem tr_len {f : List Rat} (h : Tr f) {n : Nat} (hz : ∀ i, n ≤ i → co f i = 0) : f.length ≤ n := by
  by_cases hn : f.length ≤ n
  · exact hn
  · exfalso
    have hp : f ≠ [] := fun z => by subst z; simp at hn
    apply h
    have h1 := hz (f.length - 1) (by omega)
    rw [List.getLast?_eq_getElem?, co_lt (by omega), h1]
theorem tr_ext {f g : List Rat} (hf : Tr f) (hg : Tr g) (h : ∀ i, co f i = co g i) : f = g := by
  refine list_ext (Nat.le_antisymm ?_ ?_) h
  · exact tr_len hf fun i hi => by rw [h]; exact co_ge hi
  · exact tr_len hg fun i hi => by rw [← h]; exact co_ge hi
theorem trim_eq {f g : List Rat} (h : ∀ i, co f i = co g i) : trim f = trim g := tr_ext (trim_tr f) (trim_tr g) fun i => by rw [co_trim, co_trim, h]
theorem tr_last {f : List Rat} (h : Tr f) (hf : f ≠ []) : co f (f.length - 1) ≠ 0 := fun z => by
  apply h
  have : 0 < f.length := List.length_pos_iff.mpr hf
  rw [List.getLast?_eq_getElem?, co_lt (by omega), z]

/-! sum, multiple -/
def addL (f g : List Rat) : List Rat := (List.range (max f.length g.length)).map fun i => co f i + co g i
theorem co_addL (f g : List Rat) (i : Nat) : co (addL f g) i = co f i + co g i := by
  unfold addL
  rw [co_map]
  split
  · rfl
  · rw [co_ge (f := f) (by omega), co_ge (f := g) (by omega), Rat.add_zero]
theorem len_addL (f g : List Rat) : (addL f g).length = max f.length g.length := by simp [addL]
def addP (f g : List Rat) : List Rat := trim (addL f g)
theorem co_addP (f g : List Rat) (i : Nat) : co (addP f g) i = co f i + co g i := by rw [addP, co_trim, co_addL]
theorem len_addP (f g : List Rat) : (addP f g).length ≤ max f.length g.length := by rw [← len_addL]; exact trim_len _
def mulC (c : Rat) (f : List Rat) : List Rat := trim (f.map (c * ·))
theorem co_mulC (c : Rat) (f : List Rat) (i : Nat) : co (mulC c f) i = c * co f i := by rw [mulC, co_trim, co_maps (by simp)]
theorem len_mulC (c : Rat) (f : List Rat) : (mulC c f).length ≤ f.length := by have := trim_len (f.map (c * ·)); simpa [mulC] using this
theorem mem_co {f : List Rat} {P : Rat → Prop} (h : ∀ x ∈ f, P x) (h0 : P 0) (i : Nat) : P (co f i) := by
  by_cases hi : i < f.length
  · exact h _ (List.mem_of_getElem? (co_lt hi))
  · rw [co_ge (by omega)]; exact h0
theorem mem_trim {f : List Rat} {P : Rat → Prop} (h : ∀ x ∈ f, P x) : ∀ x ∈ trim f, P x := by
  induction f with
  | nil => exact h
  | cons a f ih =>
    have ih' := ih fun x hx => h x (List.mem_cons_of_mem _ hx)
    unfold trim
    split
    · split
      · simp
      · simpa using h a (List.mem_cons_self ..)
    · rename_i b g e
      rw [e] at ih'
      intro x hx
      rcases List.mem_cons.mp hx with rfl | hx
      · exact h _ (List.mem_cons_self ..)
      · exact ih' x hx
/-- filled up with zeros -/
def pad (f : List Rat) (m : Nat) : List Rat := (List.range m).map (co f)
theorem pad_eq {f : List Rat} {m : Nat} (h : f.length ≤ m) : f ++ List.replicate (m - f.length) 0 = pad f m := by
  refine list_ext (by simp [pad]; omega) fun i => ?_
  unfold pad
  rw [co_map]
  by_cases hi : i < f.length
  · rw [if_pos (by omega)]
    simp [co, List.getD, hi, List.getElem?_append_left]
  · by_cases h2 : i < m
    · rw [if_pos h2, co_ge (f := f) (by omega)]
      simp only [co, List.getD]
      rw [List.getElem?_append_right (by omega), List.getElem?_replicate]
      split <;> simp
    · rw [if_neg h2, co_ge (by simp; omega)]
def subP (f g : List Rat) : List Rat := addP f (mulC (-1) g)
theorem co_subP (f g : List Rat) (i : Nat) : co (subP f g) i = co f i - co g i := by rw [subP, co_addP, co_mulC]; grind
/-! sums -/
def sumR : Nat → (Nat → Rat) → Rat
  | 0, _ => 0
  | n + 1, F => sumR n F + F n
theorem sumR_congr {n : Nat} {F G : Nat → Rat} (h : ∀ i, i < n → F i = G i) : sumR n F = sumR n G := by
  induction n with
  | zero => rfl
  | succ n ih => simp only [sumR]; rw [ih fun i hi => h i (by omega), h n (by omega)]
theorem sumR_zero {n : Nat} {F : Nat → Rat} (h : ∀ i, i < n → F i = 0) : sumR n F = 0 := by
  induction n with
  | zero => rfl
  | succ n ih => simp only [sumR]; rw [ih fun i hi => h i (by omega), h n (by omega)]; simp [Rat.add_zero]
theorem sumR_add {n : Nat} {F G : Nat → Rat} : sumR n (fun i => F i + G i) = sumR n F + sumR n G := by
  induction n with
  | zero => simp [sumR, Rat.add_zero]
  | succ n ih => simp only [sumR]; rw [ih]; grind
theorem sumR_mul {n : Nat} {F : Nat → Rat} {c : Rat} : sumR n (fun i => c * F i) = c * sumR n F := by
  induction n with
  | zero => simp [sumR]
  | succ n ih => simp only [sumR]; rw [ih]; grind
theorem sumR_one {n k : Nat} {F : Nat → Rat} (hk : k < n) (h : ∀ i, i < n → i ≠ k → F i = 0) : sumR n F = F k := by
  induction n with
  | zero => omega
  | succ n ih =>
    simp only [sumR]
    by_cases hn : k = n
    · subst hn
      rw [sumR_zero fun i hi => h i (by omega) (by omega), Rat.zero_add]
    · rw [ih (by omega) fun i hi => h i (by omega), h n (by omega) (by omega), Rat.add_zero]
theorem sumR_more {n m : Nat} {F : Nat → Rat} (hm : n ≤ m) (h : ∀ i, n ≤ i → i < m → F i = 0) : sumR m F = sumR n F := by
  induction m with
  | zero => have : n = 0 := by omega
            subst this; rfl
  | succ m ih =>
    by_cases e : n = m + 1
    · subst e; rfl
    · simp only [sumR]
      rw [ih (by omega) fun i h1 h2 => h i h1 (by omega), h m (by omega) (by omega), Rat.add_zero]
/-- the m-th number of a product, from the first n of a -/
def conv (n : Nat) (a b : Nat → Rat) (m : Nat) : Rat := sumR n fun i => if i ≤ m then a i * b (m - i) else 0
theorem conv_more {n m : Nat} {a b : Nat → Rat} (hm : n ≤ m) (h : ∀ i, n ≤ i → a i = 0) (k : Nat) : conv m a b k = conv n a b k := sumR_more hm fun i h1 _ => by rw [h i h1]; simp
theorem conv_sub {n : Nat} {a a' b : Nat → Rat} (k : Nat) : conv n (fun i => a i - a' i) b k = conv n a b k - conv n a' b k := by
  unfold conv
  induction n with
  | zero => simp [sumR]; grind
  | succ n ih =>
    simp only [sumR]
    rw [ih]
    split <;> grind
/-- division's answers are unique -/
theorem div_unique {h : List Rat} (ht : Tr h) (h0 : h ≠ []) {n : Nat} {q q' r r' : Nat → Rat} (zq : ∀ i, n ≤ i → q i = 0) (zq' : ∀ i, n ≤ i → q' i = 0) (zr : ∀ i, h.length - 1 ≤ i → r i = 0) (zr' : ∀ i, h.length - 1 ≤ i → r' i = 0)
    (e : ∀ m, conv n q (co h) m + r m = conv n q' (co h) m + r' m) : (∀ i, q i = q' i) ∧ ∀ i, r i = r' i := by
  have hp : 0 < h.length := List.length_pos_iff.mpr h0
  have key : ∀ k, (∀ i, k ≤ i → q i = q' i) → ∀ i, q i = q' i := by
    intro k
    induction k with
    | zero => exact fun H i => H i (Nat.zero_le _)
    | succ k ih =>
      intro H
      refine ih fun i hi => ?_
      by_cases hk : i = k
      · subst hk
        by_cases hn : n ≤ i
        · rw [zq i hn, zq' i hn]
        · have e1 := e (i + (h.length - 1))
          rw [zr _ (by omega), zr' _ (by omega), Rat.add_zero, Rat.add_zero] at e1
          have e2 : conv n (fun j => q j - q' j) (co h) (i + (h.length - 1)) = 0 := by rw [conv_sub, e1]; grind
          unfold conv at e2
          rw [sumR_one (k := i) (by omega)] at e2
          · rw [if_pos (by omega)] at e2
            have : i + (h.length - 1) - i = h.length - 1 := by omega
            rw [this] at e2
            rcases Rat.mul_eq_zero.mp e2 with z | z
            · grind
            · exact absurd z (tr_last ht h0)
          · intro j hj hne
            by_cases h1 : j < i
            · rw [if_pos (by omega), co_ge (by omega)]; grind
            · dsimp only
              rw [H j (by omega)]; split <;> grind
      · exact H i (by omega)
  have hq := key n fun i hi => by rw [zq i hi, zq' i hi]
  refine ⟨hq, fun i => ?_⟩
  have := e i
  have e3 : conv n q (co h) i = conv n q' (co h) i := sumR_congr fun j _ => by rw [hq j]
  rw [e3] at this
  grind
end DE

set_option Elab.async false
set_option linter.all false
set_option maxRecDepth 100000
set_option maxHeartbeats 4000000
set_option exponentiation.threshold 20000
set_option autoImplicit false
/-! Loops by an invariant; products. -/
namespace DE
open PySem
open L2 (ixN atI)

/-- a for whose body never leaves it -/
theorem for_inv {ι σ : Type} {tg : Tg} {ψ : Pst} (e : ι → D) (P : σ → Stt → Prop) (step : σ → ι → σ) : ∀ (items : List ι) (s : σ) (st : Stt), P s st →
    (∀ i ∈ items, ∀ s st, P s st → ∃ γ st', bindT tg (e i) st.γ = some γ ∧ ψ ⟨γ, st.S⟩ = some (.nx, st') ∧ P (step s i) st') → ∃ st', forF tg ψ (items.map e) st = some (.nx, st') ∧ P (items.foldl step s) st'
  | [], s, st, h, _ => ⟨st, rfl, h⟩
  | i :: items, s, st, h, H => by
    obtain ⟨γ, st1, h1, h2, h3⟩ := H i (List.mem_cons_self ..) s st h
    obtain ⟨st2, h4, h5⟩ := for_inv e P step items (step s i) st1 h3 fun j hj => H j (List.mem_cons_of_mem _ hj)
    refine ⟨st2, ?_, h5⟩
    rw [List.map_cons]
    unfold forF
    rw [h1, Option.bind_some, h2, Option.bind_some]
    exact h4

theorem for_rng' {tg : Tg} {ψ : Pst} (e : Nat → D) (P : Nat → Stt → Prop) : ∀ (m s : Nat) (st : Stt), P s st →
    (∀ i, s ≤ i → i < s + m → ∀ st, P i st → ∃ γ st', bindT tg (e i) st.γ = some γ ∧ ψ ⟨γ, st.S⟩ = some (.nx, st') ∧ P (i + 1) st') → ∃ st', forF tg ψ ((List.range' s m).map e) st = some (.nx, st') ∧ P (s + m) st'
  | 0, s, st, h, _ => ⟨st, rfl, h⟩
  | m + 1, s, st, h, H => by
    obtain ⟨γ, st1, h1, h2, h3⟩ := H s (Nat.le_refl _) (by omega) st h
    obtain ⟨st2, h4, h5⟩ := for_rng' e P m (s + 1) st1 h3 fun i hi hj => H i (by omega) (by omega)
    refine ⟨st2, ?_, by rw [← Nat.add_assoc, Nat.add_right_comm]; exact h5⟩
    rw [List.range'_succ, List.map_cons]
    unfold forF
    rw [h1, Option.bind_some, h2, Option.bind_some]
    exact h4
theorem for_rng {tg : Tg} {ψ : Pst} {e : Nat → D} (P : Nat → Stt → Prop) {n : Nat} {st : Stt} (h0 : P 0 st)
    (H : ∀ i, i < n → ∀ st, P i st → ∃ γ st', bindT tg (e i) st.γ = some γ ∧ ψ ⟨γ, st.S⟩ = some (.nx, st') ∧ P (i + 1) st') : ∃ st', forF tg ψ ((List.range n).map e) st = some (.nx, st') ∧ P n st' := by
  have := for_rng' e P n 0 st h0 fun i _ hi => H i (by omega)
  rw [Nat.zero_add, ← List.range_eq_range'] at this
  exact this
theorem enum_dP (f : List Rat) : enumD (f.map dQ) = (List.range f.length).map fun i => .tuple [.int (i : Nat), dQ (co f i)] := by
  rw [enum_map, List.length_map]
  refine List.map_congr_left fun i hi => ?_
  have hi : i < f.length := by simpa using hi
  simp [List.getD, hi, co]
theorem ixN_int {n : Nat} {i : Int} {j : Nat} (h : i = j) (hj : j < n) : ixN n i = some j := by subst h; exact ixN_nat hj
/-! lists that are added to in place -/
section
variable {α : Type} [Add α] [Inhabited α]
/-- L[m] = L[m] + v -/
def addAt (z : α) (L : List α) (m : Nat) (v : α) : List α := L.set m (L.getD m z + v)
theorem len_addAt {z : α} {L : List α} {m : Nat} {v : α} : (addAt z L m v).length = L.length := by simp [addAt]
theorem get_addAt {z : α} {L : List α} {m : Nat} {v : α} (h : m < L.length) (i : Nat) : (addAt z L m v).getD i z = if i = m then L.getD m z + v else L.getD i z := by
  unfold addAt
  by_cases hi : i = m
  · subst hi
    simp [List.getD, h]
  · rw [if_neg hi]
    simp [List.getD, List.getElem?_set, Ne.symm hi]
end
/-- one row of a product: a * g added from place i on -/
def row (i : Nat) (a : Rat) (g : Nat → Rat) : Nat → List Rat → List Rat
  | 0, L => L
  | n + 1, L => addAt 0 (row i a g n L) (i + n) (a * g n)
theorem len_row {i : Nat} {a : Rat} {g : Nat → Rat} (n : Nat) (L : List Rat) : (row i a g n L).length = L.length := by
  induction n with
  | zero => rfl
  | succ n ih => simp only [row]; rw [len_addAt, ih]
theorem co_row {i : Nat} {a : Rat} {g : Nat → Rat} : ∀ (n : Nat) (L : List Rat), i + n ≤ L.length → ∀ m, co (row i a g n L) m = co L m + if i ≤ m ∧ m < i + n then a * g (m - i) else 0
  | 0, L, _, m => by rw [if_neg (by omega), Rat.add_zero]; rfl
  | n + 1, L, h, m => by
    have ih := co_row (i := i) (a := a) (g := g) n L (by omega)
    have e : co (row i a g (n + 1) L) m = if m = i + n then co (row i a g n L) (i + n) + a * g n else co (row i a g n L) m := get_addAt (by rw [len_row]; omega) m
    rw [e]
    by_cases hm : m = i + n
    · subst hm
      rw [if_pos rfl, ih, if_neg (by omega), if_pos (by omega), Rat.add_zero, Nat.add_sub_cancel_left]
    · rw [if_neg hm, ih]
      by_cases h2 : i ≤ m ∧ m < i + n
      · rw [if_pos h2, if_pos (by omega)]
      · rw [if_neg h2, if_neg (by omega)]
/-- all rows -/
def rows (f g : Nat → Rat) (ng : Nat) : Nat → List Rat → List Rat
  | 0, L => L
  | n + 1, L => row n (f n) g ng (rows f g ng n L)
theorem len_rows {f g : Nat → Rat} {ng : Nat} (n : Nat) (L : List Rat) : (rows f g ng n L).length = L.length := by
  induction n with
  | zero => rfl
  | succ n ih => simp only [rows]; rw [len_row, ih]
theorem co_rows {f g : Nat → Rat} {ng : Nat} (hg : ∀ j, ng ≤ j → g j = 0) : ∀ (n : Nat) (L : List Rat), n + ng ≤ L.length + 1 → ∀ m, co (rows f g ng n L) m = co L m + conv n f g m
  | 0, L, _, m => by simp [rows, conv, sumR, Rat.add_zero]
  | n + 1, L, h, m => by
    have ih := co_rows (f := f) hg n L (by omega) m
    simp only [rows]
    rw [co_row ng _ (by rw [len_rows]; omega), ih]
    have e : conv (n + 1) f g m = conv n f g m + if n ≤ m then f n * g (m - n) else 0 := rfl
    rw [e]
    have e2 : (if n ≤ m ∧ m < n + ng then f n * g (m - n) else 0) = if n ≤ m then f n * g (m - n) else 0 := by
      by_cases h1 : n ≤ m
      · by_cases h2 : m < n + ng
        · rw [if_pos ⟨h1, h2⟩, if_pos h1]
        · rw [if_neg (by omega), if_pos h1, hg _ (by omega), Rat.mul_zero]
      · rw [if_neg (by omega), if_neg h1]
    rw [e2, Rat.add_assoc]
def prodL (f g : List Rat) : List Rat := (List.range (f.length + g.length)).map (conv f.length (co f) (co g))
def mulP (f g : List Rat) : List Rat := trim (prodL f g)
theorem conv_ge {f g : List Rat} {m : Nat} (h : f.length + g.length ≤ m) : conv f.length (co f) (co g) m = 0 := sumR_zero fun i hi => by
  split
  · rw [co_ge (f := g) (by omega), Rat.mul_zero]
  · rfl
theorem co_prodL (f g : List Rat) (m : Nat) : co (prodL f g) m = conv f.length (co f) (co g) m := by
  unfold prodL
  rw [co_map]
  split
  · rfl
  · rw [conv_ge (by omega)]
theorem co_mulP (f g : List Rat) (m : Nat) : co (mulP f g) m = conv f.length (co f) (co g) m := by rw [mulP, co_trim, co_prodL]
theorem len_mulP (f g : List Rat) : (mulP f g).length ≤ f.length + g.length := by
  have := trim_len (prodL f g)
  simpa [mulP, prodL] using this
theorem co_zeros (n i : Nat) : co (List.replicate n 0) i = 0 := by
  simp only [co, List.getD, List.getElem?_replicate]
  split <;> rfl
theorem rows_prodL (f g : List Rat) : rows (co f) (co g) g.length f.length (List.replicate (f.length + g.length) 0) = prodL f g := by
  refine list_ext (by rw [len_rows]; simp [prodL]) fun i => ?_
  rw [co_rows (fun j hj => co_ge hj) _ _ (by simp), co_zeros, Rat.zero_add, co_prodL]
/-! the same with ints -/
def cz (L : List Int) : List Rat := L.map fun (z : Int) => (z : Rat)
def rowZ (i : Nat) (a : Int) (g : Nat → Int) : Nat → List Int → List Int
  | 0, L => L
  | n + 1, L => addAt 0 (rowZ i a g n L) (i + n) (a * g n)
def rowsZ (f g : Nat → Int) (ng : Nat) : Nat → List Int → List Int
  | 0, L => L
  | n + 1, L => rowZ n (f n) g ng (rowsZ f g ng n L)
theorem len_rowZ {i : Nat} {a : Int} {g : Nat → Int} (n : Nat) (L : List Int) : (rowZ i a g n L).length = L.length := by
  induction n with
  | zero => rfl
  | succ n ih => simp only [rowZ]; rw [len_addAt, ih]
theorem len_rowsZ {f g : Nat → Int} {ng : Nat} (n : Nat) (L : List Int) : (rowsZ f g ng n L).length = L.length := by
  induction n with
  | zero => rfl
  | succ n ih => simp only [rowsZ]; rw [len_rowZ, ih]
theorem getD_cz (L : List Int) (m : Nat) : (cz L).getD m 0 = ((L.getD m 0 : Int) : Rat) := by
  unfold cz
  simp only [List.getD, List.getElem?_map]
  cases L[m]? <;> simp
theorem cz_addAt (L : List Int) (m : Nat) (v : Int) : cz (addAt 0 L m v) = addAt 0 (cz L) m (v : Rat) := by
  unfold addAt
  rw [getD_cz, ← Rat.intCast_add]
  unfold cz
  rw [List.map_set]
theorem cz_rowZ {i : Nat} {a : Int} {g : Nat → Int} (n : Nat) (L : List Int) : cz (rowZ i a g n L) = row i (a : Rat) (fun j => (g j : Rat)) n (cz L) := by
  induction n with
  | zero => rfl
  | succ n ih => simp only [rowZ, row]; rw [cz_addAt, ih, Rat.intCast_mul]
theorem cz_rowsZ {f g : Nat → Int} {ng : Nat} (n : Nat) (L : List Int) : cz (rowsZ f g ng n L) = rows (fun j => (f j : Rat)) (fun j => (g j : Rat)) ng n (cz L) := by
  induction n with
  | zero => rfl
  | succ n ih => simp only [rowsZ, rows]; rw [cz_rowZ, ih]
theorem enum_ints (xs : List Int) : enumD (xs.map PyData.int) = (List.range xs.length).map fun i => .tuple [.int (i : Nat), .int (xs.getD i 0)] := by
  rw [enum_map, List.length_map]
  refine List.map_congr_left fun i hi => ?_
  have hi : i < xs.length := by simpa using hi
  simp [List.getD, hi]
theorem conv_scale {n : Nat} {a b : Nat → Rat} {c d : Rat} (m : Nat) : conv n (fun i => c * a i) (fun j => d * b j) m = c * d * conv n a b m := by
  unfold conv
  rw [← sumR_mul]
  refine sumR_congr fun i _ => ?_
  split <;> grind
theorem conv_congr {n : Nat} {a a' b b' : Nat → Rat} (ha : ∀ i, i < n → a i = a' i) (hb : ∀ j, b j = b' j) (m : Nat) : conv n a b m = conv n a' b' m := sumR_congr fun i hi => by rw [ha i hi, hb]
/-! common denominators -/
def dens (f : List Rat) : Nat := f.foldr (fun x p => x.den * p) 1
theorem dens_pos : ∀ f : List Rat, 0 < dens f
  | [] => Nat.one_pos
  | x :: f => Nat.mul_pos x.den_pos (dens_pos f)
theorem den_dvd_dens : ∀ {f : List Rat} {x : Rat}, x ∈ f → x.den ∣ dens f
  | y :: f, x, h => by
    rcases List.mem_cons.mp h with rfl | h
    · exact ⟨dens f, rfl⟩
    · exact Nat.dvd_trans (den_dvd_dens h) ⟨y.den, Nat.mul_comm _ _⟩
theorem dens_lt {n : Nat} (hn : 0 < n) : ∀ {f : List Rat}, (∀ x ∈ f, Hb n x) → dens f ≤ 2 ^ (n * f.length)
  | [], _ => Nat.le_refl _
  | x :: f, h => by
    have ih := dens_lt hn fun y hy => h y (List.mem_cons_of_mem _ hy)
    have hx := (h x (List.mem_cons_self ..)).2
    show x.den * dens f ≤ 2 ^ (n * (f.length + 1))
    rw [Nat.mul_succ, Nat.add_comm, Nat.pow_add]
    exact Nat.mul_le_mul (Nat.le_of_lt hx) ih
def bot (f : List Rat) : Nat := f.foldl (fun b x => Nat.lcm b x.den) 1
theorem bot_spec {P : Nat} : ∀ (f : List Rat) (b : Nat), 0 < b → b ∣ P → (∀ x ∈ f, x.den ∣ P) → b ∣ f.foldl (fun b x => Nat.lcm b x.den) b ∧ 0 < f.foldl (fun b x => Nat.lcm b x.den) b ∧ f.foldl (fun b x => Nat.lcm b x.den) b ∣ P ∧ ∀ x ∈ f, x.den ∣ f.foldl (fun b x => Nat.lcm b x.den) b
  | [], b, h0, hP, _ => ⟨Nat.dvd_refl _, h0, hP, by simp⟩
  | x :: f, b, h0, hP, h => by
    obtain ⟨h1, h2, h3, h4⟩ := bot_spec f (Nat.lcm b x.den) (Nat.lcm_pos h0 x.den_pos) (Nat.lcm_dvd hP (h x (List.mem_cons_self ..))) fun y hy => h y (List.mem_cons_of_mem _ hy)
    refine ⟨Nat.dvd_trans (Nat.dvd_lcm_left ..) h1, h2, h3, fun y hy => ?_⟩
    rcases List.mem_cons.mp hy with rfl | hy
    · exact Nat.dvd_trans (Nat.dvd_lcm_right ..) h1
    · exact h4 y hy
theorem bot_pos (f : List Rat) : 0 < bot f := (bot_spec f 1 Nat.one_pos (Nat.one_dvd _) fun x hx => den_dvd_dens hx).2.1
theorem bot_dvd {f : List Rat} {x : Rat} (h : x ∈ f) : x.den ∣ bot f := (bot_spec f 1 Nat.one_pos (Nat.one_dvd _) fun x hx => den_dvd_dens hx).2.2.2 x h
theorem bot_le (f : List Rat) : bot f ≤ dens f := Nat.le_of_dvd (dens_pos f) (bot_spec f 1 Nat.one_pos (Nat.one_dvd _) fun x hx => den_dvd_dens hx).2.2.1
theorem lcm_eq (b d : Nat) : b / Nat.gcd b d * d = Nat.lcm b d := by
  unfold Nat.lcm
  rw [Nat.div_mul_right_comm (Nat.gcd_dvd_left b d)]
/-- the whole number that stands for x -/
def wn (b : Nat) (x : Rat) : Int := x.num * ((b / x.den : Nat) : Int)
theorem wn_eq {b : Nat} {x : Rat} (h : x.den ∣ b) : ((wn b x : Int) : Rat) = b * x := by
  obtain ⟨c, rfl⟩ := h
  unfold wn
  rw [Nat.mul_div_cancel_left _ x.den_pos, Rat.intCast_mul]
  have e : x = x.num / x.den := by rw [← Rat.mkRat_eq_div, Rat.mkRat_self]
  have hd : (x.den : Rat) ≠ 0 := by
    intro z
    have := congrArg Rat.num z
    simp at this
    exact absurd this x.den_nz
  have e2 : x * x.den = x.num := by
    conv => lhs; lhs; rw [e]
    exact Rat.div_mul_cancel hd
  have e3 : (((x.den * c : Nat) : Nat) : Rat) = (x.den : Rat) * c := Rat.natCast_mul _ _
  have e4 : (((c : Nat) : Int) : Rat) = (c : Rat) := rfl
  rw [e3, e4, ← e2]
  grind
end DE

set_option Elab.async false
set_option linter.all false
set_option maxRecDepth 100000
set_option maxHeartbeats 4000000
set_option exponentiation.threshold 20000
set_option autoImplicit false
/-! Division; how large its numbers grow. -/
namespace DE
open PySem

/-! sizes, by a common denominator -/
def Bd (n : Nat) (x : Rat) : Prop := ∃ N : Int, x * (36 ^ n : Nat) = N ∧ N.natAbs ≤ 324 ^ n
theorem Bd.hb {n : Nat} {x : Rat} (h : Bd n x) : Hb (9 * n + 1) x := by
  obtain ⟨N, h1, h2⟩ := h
  have hp : (36 ^ n : Nat) ≠ 0 := Nat.pos_iff_ne_zero.mp (Nat.pow_pos (by decide))
  have hq : ((36 ^ n : Nat) : Rat) ≠ 0 := fun z => hp (by have h2 : ((36 ^ n : Nat) : Int) = 0 := congrArg Rat.num z; omega)
  have e : x = Rat.divInt N ((36 ^ n : Nat) : Int) := by
    rw [Rat.divInt_eq_div, ← h1]
    exact (Rat.mul_div_cancel hq).symm
  rw [e]
  have l1 : 324 ^ n ≤ 2 ^ (9 * n) := by rw [Nat.pow_mul]; exact Nat.pow_le_pow_left (by decide) n
  have l2 : 36 ^ n ≤ 2 ^ (9 * n) := by rw [Nat.pow_mul]; exact Nat.pow_le_pow_left (by decide) n
  have l3 := Nat.two_pow_pos (9 * n)
  refine Hb.div ?_ ?_ (by omega)
  · rw [Nat.pow_succ]; omega
  · rw [Nat.pow_succ, Int.natAbs_natCast]; omega
theorem Bd.up {n : Nat} {x : Rat} (h : Bd n x) : Bd (n + 1) x := by
  obtain ⟨N, h1, h2⟩ := h
  refine ⟨N * 36, ?_, ?_⟩
  · rw [Nat.pow_succ, Rat.natCast_mul, Rat.intCast_mul, ← h1]
    have : ((36 : Nat) : Rat) = ((36 : Int) : Rat) := rfl
    rw [this]; grind
  · rw [Int.natAbs_mul, Nat.pow_succ]
    exact Nat.mul_le_mul h2 (by decide)
theorem Bd.mono {n m : Nat} {x : Rat} (h : Bd n x) (hm : n ≤ m) : Bd m x := by
  induction m with
  | zero => have : n = 0 := by omega
            subst this; exact h
  | succ m ih =>
    by_cases e : n = m + 1
    · subst e; exact h
    · exact (ih (by omega)).up
theorem Bd.add {n : Nat} {x y : Rat} (hx : Bd n x) (hy : Bd n y) : Bd (n + 1) (x + y) := by
  obtain ⟨N, h1, h2⟩ := hx
  obtain ⟨M, h3, h4⟩ := hy
  refine ⟨(N + M) * 36, ?_, ?_⟩
  · rw [Nat.pow_succ, Rat.natCast_mul, Rat.intCast_mul, Rat.intCast_add, ← h1, ← h3]
    have : ((36 : Nat) : Rat) = ((36 : Int) : Rat) := rfl
    rw [this]; grind
  · rw [Int.natAbs_mul, Nat.pow_succ]
    have := Int.natAbs_add_le N M
    have e : (36 : Int).natAbs = 36 := rfl
    rw [e]
    omega
theorem Bd.mul {n m : Nat} {x y : Rat} (hx : Bd n x) (hy : Bd m y) : Bd (n + m) (x * y) := by
  obtain ⟨N, h1, h2⟩ := hx
  obtain ⟨M, h3, h4⟩ := hy
  refine ⟨N * M, ?_, ?_⟩
  · rw [Nat.pow_add, Rat.natCast_mul, Rat.intCast_mul, ← h1, ← h3]; grind
  · rw [Int.natAbs_mul, Nat.pow_add]
    exact Nat.mul_le_mul h2 h4
theorem Bd.neg {n : Nat} {x : Rat} (hx : Bd n x) : Bd n (-x) := by
  obtain ⟨N, h1, h2⟩ := hx
  exact ⟨-N, by rw [Rat.neg_mul, h1, Rat.intCast_neg], by rw [Int.natAbs_neg]; exact h2⟩
theorem Bd.zero (n : Nat) : Bd n 0 := ⟨0, by rw [Rat.zero_mul]; rfl, Nat.zero_le _⟩

/-! division -/
section
variable (f h : List Rat)
def dnq : Nat := f.length + 1 - h.length
/-- rest and quotient after s steps -/
def dv : Nat → List Rat × List Rat
  | 0 => (f, List.replicate (dnq f h) 0)
  | s + 1 => (row (dnq f h - 1 - s) (-(co (dv s).1 (dnq f h - 1 - s + (h.length - 1)) / co h (h.length - 1))) (co h) h.length (dv s).1, (dv s).2.set (dnq f h - 1 - s) (co (dv s).1 (dnq f h - 1 - s + (h.length - 1)) / co h (h.length - 1)))
def divQ : List Rat := trim (dv f h (dnq f h)).2
def divR : List Rat := trim (dv f h (dnq f h)).1
end
section
variable {f h : List Rat}
theorem len_dv1 (s : Nat) : (dv f h s).1.length = f.length := by
  induction s with
  | zero => rfl
  | succ s ih => simp only [dv]; rw [len_row, ih]
theorem len_dv2 (s : Nat) : (dv f h s).2.length = dnq f h := by
  induction s with
  | zero => simp [dv]
  | succ s ih => simp only [dv]; rw [List.length_set, ih]
theorem co_set {L : List Rat} {m : Nat} {v : Rat} (h : m < L.length) (i : Nat) : co (L.set m v) i = if i = m then v else co L i := by
  unfold co
  by_cases hi : i = m
  · subst hi; simp [List.getD, h]
  · rw [if_neg hi]
    simp [List.getD, List.getElem?_set, Ne.symm hi]
theorem dv_spec (h0 : h ≠ []) (hl : co h (h.length - 1) ≠ 0) : ∀ s, s ≤ dnq f h → (∀ m, co f m = conv (dnq f h) (co (dv f h s).2) (co h) m + co (dv f h s).1 m) ∧ (0 < dnq f h → ∀ i, dnq f h - s + (h.length - 1) ≤ i → co (dv f h s).1 i = 0) ∧ ∀ i, i < dnq f h - s → co (dv f h s).2 i = 0 := by
  have hp : 0 < h.length := List.length_pos_iff.mpr h0
  intro s
  induction s with
  | zero =>
    intro _
    refine ⟨fun m => ?_, fun hq i hi => ?_, fun i _ => co_zeros _ _⟩
    · simp only [dv]
      have : conv (dnq f h) (co (List.replicate (dnq f h) 0)) (co h) m = 0 := sumR_zero fun i _ => by rw [co_zeros]; split <;> simp
      rw [this, Rat.zero_add]
    · simp only [dv]
      unfold dnq at hi hq
      exact co_ge (by omega)
  | succ s ih =>
    intro hs
    obtain ⟨i1, i2, i3⟩ := ih (by omega)
    have hq : 0 < dnq f h := by omega
    have hk : dnq f h - 1 - s + h.length ≤ (dv f h s).1.length := by rw [len_dv1]; unfold dnq at *; omega
    generalize ho : co (dv f h s).1 (dnq f h - 1 - s + (h.length - 1)) / co h (h.length - 1) = o
    have hk2 : dnq f h - 1 - s < (dv f h s).2.length := by rw [len_dv2]; omega
    have er : ∀ m, co (dv f h (s + 1)).1 m = co (dv f h s).1 m + if dnq f h - 1 - s ≤ m ∧ m < dnq f h - 1 - s + h.length then -o * co h (m - (dnq f h - 1 - s)) else 0 := fun m => by
      simp only [dv]
      rw [ho, co_row _ _ hk]
    have eq : ∀ i, co (dv f h (s + 1)).2 i = if i = dnq f h - 1 - s then o else co (dv f h s).2 i := fun i => by
      simp only [dv]
      rw [ho, co_set hk2]
    refine ⟨fun m => ?_, fun _ i hi => ?_, fun i hi => ?_⟩
    · rw [i1 m, er m]
      have ec : conv (dnq f h) (co (dv f h (s + 1)).2) (co h) m = conv (dnq f h) (co (dv f h s).2) (co h) m + if dnq f h - 1 - s ≤ m then o * co h (m - (dnq f h - 1 - s)) else 0 := by
        unfold conv
        have e1 : (if dnq f h - 1 - s ≤ m then o * co h (m - (dnq f h - 1 - s)) else 0) = sumR (dnq f h) fun i => if i = dnq f h - 1 - s then (if i ≤ m then o * co h (m - i) else 0) else 0 := by
          rw [sumR_one (k := dnq f h - 1 - s) (by omega) fun i _ hne => if_neg hne, if_pos rfl]
        rw [e1, ← sumR_add]
        refine sumR_congr fun i hi => ?_
        rw [eq i]
        by_cases hik : i = dnq f h - 1 - s
        · rw [if_pos hik, if_pos hik, i3 i (by omega)]
          split <;> grind
        · rw [if_neg hik, if_neg hik, Rat.add_zero]
      rw [ec]
      by_cases h1 : dnq f h - 1 - s ≤ m
      · rw [if_pos h1]
        by_cases h2 : m < dnq f h - 1 - s + h.length
        · rw [if_pos ⟨h1, h2⟩]; grind
        · rw [if_neg (by omega), co_ge (f := h) (by omega)]; grind
      · rw [if_neg h1, if_neg (by omega)]; grind
    · rw [er i]
      by_cases hik : i = dnq f h - 1 - s + (h.length - 1)
      · rw [if_pos (by omega)]
        have e1 : i - (dnq f h - 1 - s) = h.length - 1 := by omega
        rw [e1, hik, ← ho]
        have := Rat.div_mul_cancel (a := co (dv f h s).1 (dnq f h - 1 - s + (h.length - 1))) hl
        grind
      · rw [if_neg (by omega), i2 hq i (by omega), Rat.add_zero]
    · rw [eq i, if_neg (by omega)]
      exact i3 i (by omega)
theorem divR_len (h0 : h ≠ []) (hl : co h (h.length - 1) ≠ 0) : (divR f h).length < h.length := by
  have hp : 0 < h.length := List.length_pos_iff.mpr h0
  obtain ⟨_, i2, _⟩ := dv_spec (f := f) h0 hl (dnq f h) (Nat.le_refl _)
  by_cases hq : 0 < dnq f h
  · have := tr_len (trim_tr (dv f h (dnq f h)).1) (n := h.length - 1) fun i hi => by rw [co_trim]; exact i2 hq i (by omega)
    unfold divR; omega
  · have e : dnq f h = 0 := by omega
    have := trim_len (dv f h (dnq f h)).1
    rw [len_dv1] at this
    unfold divR
    unfold dnq at e
    omega
theorem div_eq (h0 : h ≠ []) (hl : co h (h.length - 1) ≠ 0) (m : Nat) : co f m = conv (dnq f h) (co (divQ f h)) (co h) m + co (divR f h) m := by
  obtain ⟨i1, _, _⟩ := dv_spec (f := f) h0 hl (dnq f h) (Nat.le_refl _)
  rw [i1 m, divR, co_trim]
  congr 1
  exact sumR_congr fun i _ => by rw [divQ, co_trim]
theorem divQ_len (h0 : h ≠ []) (hl : co h (h.length - 1) ≠ 0) (hf : Tr f) : (divQ f h).length = dnq f h := by
  have hp : 0 < h.length := List.length_pos_iff.mpr h0
  have le : (divQ f h).length ≤ dnq f h := by have := trim_len (dv f h (dnq f h)).2; rw [len_dv2] at this; exact this
  by_cases hq : 0 < dnq f h
  · have e := div_eq (f := f) h0 hl (dnq f h - 1 + (h.length - 1))
    have hR : co (divR f h) (dnq f h - 1 + (h.length - 1)) = 0 := co_ge (by have := divR_len (f := f) h0 hl; omega)
    rw [hR, Rat.add_zero] at e
    unfold conv at e
    rw [sumR_one (k := dnq f h - 1) (by omega) (fun i hi hne => by rw [if_pos (by omega), co_ge (f := h) (by omega), Rat.mul_zero]), if_pos (by omega), Nat.add_sub_cancel_left] at e
    have hlen : dnq f h - 1 + (h.length - 1) = f.length - 1 := by unfold dnq at *; omega
    have hf0 : f ≠ [] := fun z => by subst z; unfold dnq at hq; simp at hq; omega
    have := tr_last hf hf0
    rw [← hlen, e] at this
    by_cases hc : (divQ f h).length ≤ dnq f h - 1
    · rw [co_ge hc, Rat.zero_mul] at this
      exact absurd rfl this
    · omega
  · omega
/-- the numbers of the division stay small -/
theorem bd_dv (hf : ∀ i, Bd 1 (co f i)) (hh : ∀ i, Bd 1 (co h i)) (hi : Bd 1 (co h (h.length - 1))⁻¹) (h0 : h ≠ []) : ∀ s, s ≤ dnq f h → (∀ i, Bd (1 + 3 * s) (co (dv f h s).1 i)) ∧ ∀ i, Bd (1 + 3 * s) (co (dv f h s).2 i) := by
  have hp : 0 < h.length := List.length_pos_iff.mpr h0
  intro s
  induction s with
  | zero => exact fun _ => ⟨hf, fun i => by simp only [dv]; rw [co_zeros]; exact Bd.zero _⟩
  | succ s ih =>
    intro hs
    obtain ⟨i1, i2⟩ := ih (by omega)
    have ho : Bd (1 + 3 * s + 1) (co (dv f h s).1 (dnq f h - 1 - s + (h.length - 1)) / co h (h.length - 1)) := by rw [Rat.div_def]; exact (i1 _).mul hi
    have hk : dnq f h - 1 - s + h.length ≤ (dv f h s).1.length := by rw [len_dv1]; unfold dnq at *; omega
    have hk2 : dnq f h - 1 - s < (dv f h s).2.length := by rw [len_dv2]; omega
    refine ⟨fun i => ?_, fun i => ?_⟩
    · simp only [dv]
      rw [co_row _ _ hk]
      split
      · exact (((i1 i).mono (by omega : 1 + 3 * s ≤ 1 + 3 * s + 1 + 1)).add (ho.neg.mul (hh _))).mono (by omega)
      · rw [Rat.add_zero]; exact (i1 i).mono (by omega)
    · simp only [dv]
      rw [co_set hk2]
      split
      · exact ho.mono (by omega)
      · exact (i2 i).mono (by omega)
end
end DE

set_option Elab.async false
set_option linter.all false
set_option maxRecDepth 100000
set_option maxHeartbeats 4000000
set_option autoImplicit false
/-! Evaluation: the drawing source. -/
namespace DE
open PySem
section
variable {γ : List SV} {S : Option Src} {st : Stt} {i j : Nat}
def srcS : Option SV → Option Src → Option Src
  | some .src, S => S
  | _, _ => none
@[simp] theorem srcS_src : srcS (some .src) S = S := rfl
@[simp] theorem srcAt_eq' : srcAt ⟨γ, S⟩ i = srcS γ[i]? S := by
  unfold srcAt
  dsimp only
  cases h : γ[i]? with
  | none => rfl
  | some x => cases x <;> rfl
def scrS : Option SV → Option (List Int)
  | some (.scr ns) => some ns
  | _ => none
@[simp] theorem scrS_scr {ns : List Int} : scrS (some (.scr ns)) = some ns := rfl
@[simp] theorem scrAt_eq' : scrAt ⟨γ, S⟩ i = scrS γ[i]? := by
  unfold scrAt
  dsimp only
  cases h : γ[i]? with
  | none => rfl
  | some x => cases x <;> rfl
@[simp] theorem gSset_eq {f : SF} {φ : Stt → Option (Int × Stt)} : gSset i f φ st = (φ st).bind fun p => (srcAt p.2 i).map fun s => (.nx, { p.2 with S := some (f.put s p.1) }) := rfl
@[simp] theorem gSpop_eq : gSpop i st = (srcAt st i).bind fun s => (popS s).map fun s' => (.nx, { st with S := some s' }) := rfl
@[simp] theorem get_left {s : Src} : SF.left.get s = s.left := rfl
@[simp] theorem get_mixed {s : Src} : SF.mixed.get s = s.mixed := rfl
@[simp] theorem get_turn {s : Src} : SF.turn.get s = s.turn := rfl
@[simp] theorem put_left {s : Src} {z : Int} : SF.left.put s z = { s with left := z } := rfl
@[simp] theorem put_mixed {s : Src} {z : Int} : SF.mixed.put s z = { s with mixed := z } := rfl
@[simp] theorem put_turn {s : Src} {z : Int} : SF.turn.put s z = { s with turn := z } := rfl
theorem popS_ne {s : Src} (h : s.cells ≠ []) : popS s = some { s with left := s.cells.getLastD 0, cells := s.cells.dropLast } := if_neg h
@[simp] theorem int_int {z : Int} : blD .int [.int z] = some (.val (.int z)) := rfl
@[simp] theorem abs_int {z : Int} : blD .abs [.int z] = some (.val (.int (z.natAbs : Nat))) := rfl
theorem max_int {a b : Int} : blD .max [.int a, .int b] = some (.val (.int (max a b))) := rfl
end
end DE

set_option Elab.async false
set_option linter.all false
set_option maxRecDepth 100000
set_option maxHeartbeats 4000000
set_option exponentiation.threshold 20000
set_option autoImplicit false
/-! Values that may be odd: how long, how deep, how they are shown. -/
namespace DE
open PySem
mutual
/-- sequences no longer than told, level by level; lists (b) or empty dicts (not b) among them -/
def okW (b : Bool) : List Nat → D → Bool
  | _, .none => true
  | _, .bool _ => true
  | _, .int i => decide (i.natAbs < 2 ^ 209)
  | _, .str x => decide ((reprText x).length ≤ 70)
  | [], .tuple ds => ds.isEmpty
  | c :: ls, .tuple ds => decide (ds.length ≤ c) && okWs b ls ds
  | [], .list ds => b && ds.isEmpty
  | c :: ls, .list ds => b && (decide (ds.length ≤ c) && okWs b ls ds)
  | _, .dict kvs => !b && kvs.isEmpty
def okWs (b : Bool) (ls : List Nat) : List D → Bool
  | [] => true
  | d :: ds => okW b ls d && okWs b ls ds
end
theorem okWs_mem {b : Bool} {ls : List Nat} : ∀ {ds : List D}, okWs b ls ds = true ↔ ∀ d ∈ ds, okW b ls d = true
  | [] => by simp [okWs]
  | d :: ds => by simp [okWs, okWs_mem (ds := ds)]
theorem okW_tup {b : Bool} {c : Nat} {ls : List Nat} {ds : List D} (hl : ds.length ≤ c) (h : ∀ d ∈ ds, okW b ls d = true) : okW b (c :: ls) (.tuple ds) = true := by
  simp [okW, hl, okWs_mem.mpr h]
theorem okW_lst {c : Nat} {ls : List Nat} {ds : List D} (hl : ds.length ≤ c) (h : ∀ d ∈ ds, okW true ls d = true) : okW true (c :: ls) (.list ds) = true := by
  simp [okW, hl, okWs_mem.mpr h]
/-- how many signs it may take -/
def capN : List Nat → Nat
  | [] => 70
  | c :: ls => (capN ls + 2) * c + 3 + 70
theorem capN_ge : ∀ ls : List Nat, 70 ≤ capN ls
  | [] => Nat.le_refl _
  | c :: ls => by unfold capN; omega
theorem rp_atom {d : D} (h : d.showable = true) (hl : d.shown.length ≤ 70) (hd : d.depth ≤ 1) {ls : List Nat} : Rp (capN ls) (ls.length + 1) d := ⟨h, Nat.le_trans hl (capN_ge ls), by omega⟩
theorem okW_rp {b : Bool} : ∀ {ls : List Nat} {d : D}, okW b ls d = true → Rp (capN ls) (ls.length + 1) d := by
  intro ls
  induction ls with
  | nil =>
    intro d h
    cases d with
    | none => exact rp_atom rfl (by decide +kernel) (by decide)
    | bool c => cases c <;> exact rp_atom rfl (by decide +kernel) (by decide)
    | int i =>
      have h : i.natAbs < 2 ^ 209 := by simpa [okW] using h
      have e := int_text_length_le10 (k := 63) (by decide) (Nat.lt_trans h (by decide +kernel))
      refine rp_atom (by simp only [PyData.showable, decide_eq_true_eq]; exact Nat.lt_trans (bits_of_lt h (by decide)) (by decide)) ?_ (Nat.zero_le _)
      show (Str.ofString (toString i)).length ≤ 70
      rw [ofString_length]; omega
    | str x => exact rp_atom rfl (by simpa [okW, PyData.shown] using h) (Nat.zero_le _)
    | tuple ds =>
      have : ds = [] := by simpa [okW] using h
      subst this
      exact rp_atom rfl (by decide +kernel) (by decide)
    | list ds =>
      have : ds = [] := by simp [okW] at h; exact h.2
      subst this
      exact rp_atom rfl (by decide +kernel) (by decide)
    | dict kvs =>
      have : kvs = [] := by simp [okW] at h; exact h.2
      subst this
      exact rp_atom rfl (by decide +kernel) (by decide)
  | cons c ls ih =>
    intro d h
    cases d with
    | none => exact rp_atom rfl (by decide +kernel) (by decide)
    | bool c => cases c <;> exact rp_atom rfl (by decide +kernel) (by decide)
    | int i =>
      have h : i.natAbs < 2 ^ 209 := by simpa [okW] using h
      have e := int_text_length_le10 (k := 63) (by decide) (Nat.lt_trans h (by decide +kernel))
      refine rp_atom (by simp only [PyData.showable, decide_eq_true_eq]; exact Nat.lt_trans (bits_of_lt h (by decide)) (by decide)) ?_ (Nat.zero_le _)
      show (Str.ofString (toString i)).length ≤ 70
      rw [ofString_length]; omega
    | str x => exact rp_atom rfl (by simpa [okW, PyData.shown] using h) (Nat.zero_le _)
    | tuple ds =>
      have h2 : ds.length ≤ c ∧ ∀ d ∈ ds, okW b ls d = true := by simp [okW] at h; exact ⟨h.1, okWs_mem.mp h.2⟩
      refine rp_tuple (n := capN ls) (fun d hd => ih (h2.2 d hd)) ?_
      have := Nat.mul_le_mul_left (capN ls + 2) h2.1
      show _ ≤ (capN ls + 2) * c + 3 + 70
      omega
    | list ds =>
      have h2 : ds.length ≤ c ∧ ∀ d ∈ ds, okW b ls d = true := by simp [okW] at h; exact ⟨h.2.1, okWs_mem.mp h.2.2⟩
      refine rp_list (n := capN ls) (fun d hd => ih (h2.2 d hd)) ?_
      have := Nat.mul_le_mul_left (capN ls + 2) h2.1
      show _ ≤ (capN ls + 2) * c + 3 + 70
      omega
    | dict kvs =>
      have : kvs = [] := by simp [okW] at h; exact h.2
      subst this
      exact rp_atom rfl (by decide +kernel) (by decide)
theorem okW_noDict : ∀ {ls : List Nat} {d : D}, okW true ls d = true → d.hasDict = false := by
  have all : ∀ {ls : List Nat} {ds : List D}, (∀ d ∈ ds, d.hasDict = false) → PyData.hasDictAll ds = false := by
    intro ls ds
    induction ds with
    | nil => intro _; rfl
    | cons d ds ih =>
      intro h
      simp only [PyData.hasDictAll, h d (List.mem_cons_self ..), ih fun e he => h e (List.mem_cons_of_mem _ he), Bool.or_self]
  intro ls
  induction ls with
  | nil =>
    intro d h
    cases d with
    | tuple ds => have : ds = [] := by simpa [okW] using h
                  subst this; rfl
    | list ds => have : ds = [] := by simpa [okW] using h
                 subst this; rfl
    | dict kvs => simp [okW] at h
    | _ => rfl
  | cons c ls ih =>
    intro d h
    cases d with
    | tuple ds =>
      have h2 : ∀ d ∈ ds, okW true ls d = true := by simp [okW] at h; exact okWs_mem.mp h.2
      simp only [PyData.hasDict]
      exact all (ls := ls) fun d hd => ih (h2 d hd)
    | list ds =>
      have h2 : ∀ d ∈ ds, okW true ls d = true := by simp [okW] at h; exact okWs_mem.mp h.2
      simp only [PyData.hasDict]
      exact all (ls := ls) fun d hd => ih (h2 d hd)
    | dict kvs => simp [okW] at h
    | _ => rfl
theorem okW_noLst : ∀ {ls : List Nat} {d : D}, okW false ls d = true → noLst d = true := by
  have all : ∀ {ds : List D}, (∀ d ∈ ds, noLst d = true) → noLstAll ds = true := by
    intro ds
    induction ds with
    | nil => intro _; rfl
    | cons d ds ih =>
      intro h
      simp only [noLstAll, h d (List.mem_cons_self ..), ih fun e he => h e (List.mem_cons_of_mem _ he), Bool.and_self]
  intro ls
  induction ls with
  | nil =>
    intro d h
    cases d with
    | tuple ds => have : ds = [] := by simpa [okW] using h
                  subst this; rfl
    | list ds => simp [okW] at h
    | _ => rfl
  | cons c ls ih =>
    intro d h
    cases d with
    | tuple ds =>
      have h2 : ∀ d ∈ ds, okW false ls d = true := by simp [okW] at h; exact okWs_mem.mp h.2
      simp only [noLst]
      exact all fun d hd => ih (h2 d hd)
    | list ds => simp [okW] at h
    | _ => rfl
theorem okW_repr {b : Bool} {ls : List Nat} {d : D} (h : okW b ls d = true) (h1 : capN ls ≤ 1000000) (h2 : ls.length ≤ 50) : blD .repr [d] = some (.val (.str d.shown)) :=
  repr_eq (okW_rp h) h1 (by omega) (by cases b with | true => exact .inl (okW_noDict h) | false => exact .inr (okW_noLst h))
/-- tuples of tuples of .. ints -/
def okU : List Nat → D → Bool
  | [], .int i => decide (i.natAbs < 2 ^ 204)
  | c :: ls, .tuple ds => decide (ds.length ≤ c) && ds.all (okU ls)
  | _, _ => false
theorem okU_int {d : D} (h : okU [] d = true) : ∃ i : Int, d = .int i ∧ i.natAbs < 2 ^ 204 := by
  cases d <;> simp [okU] at h
  exact ⟨_, rfl, h⟩
theorem okU_tup {c : Nat} {ls : List Nat} {d : D} (h : okU (c :: ls) d = true) : ∃ ds, d = .tuple ds ∧ ds.length ≤ c ∧ ∀ e ∈ ds, okU ls e = true := by
  cases d <;> simp [okU] at h
  exact ⟨_, rfl, h.1, h.2⟩
theorem okU_nice : ∀ {ls : List Nat} {d : D}, okU ls d = true → Nice ls.length d := by
  intro ls
  induction ls with
  | nil => intro d h; obtain ⟨i, rfl, _⟩ := okU_int h; exact nice_int i
  | cons c ls ih =>
    intro d h
    obtain ⟨ds, rfl, _, h2⟩ := okU_tup h
    exact nice_tuple fun e he => ih (h2 e he)
theorem okW_of_okU {b : Bool} : ∀ {ls ms : List Nat} {d : D}, okU ls d = true → ls.length ≤ ms.length → (∀ i, i < ls.length → ls.getD i 0 ≤ ms.getD i 0) → okW b ms d = true := by
  intro ls
  induction ls with
  | nil =>
    intro ms d h _ _
    obtain ⟨i, rfl, hi⟩ := okU_int h
    have : i.natAbs < 2 ^ 209 := Nat.lt_trans hi (by decide)
    cases ms <;> simpa [okW] using this
  | cons c ls ih =>
    intro ms d h hl hc
    obtain ⟨ds, rfl, h1, h2⟩ := okU_tup h
    cases ms with
    | nil => simp at hl
    | cons m ms =>
      have h0 := hc 0 (by simp)
      simp at h0
      refine okW_tup (by omega) fun e he => ih (h2 e he) (by simpa using hl) fun i hi => ?_
      have := hc (i + 1) (by simpa using hi)
      simpa using this
end DE

set_option Elab.async false
set_option linter.all false
set_option maxRecDepth 100000
set_option maxHeartbeats 4000000
set_option autoImplicit false
/-! Evaluation: the drawing source's cells under a name. -/
namespace DE
open PySem
section
variable {γ : List SV} {S : Option Src} {st : Stt} {i j : Nat}
def celS : Option SV → Option Src → Option Src
  | some .cel, S => S
  | _, _ => none
@[simp] theorem celS_cel : celS (some .cel) S = S := rfl
@[simp] theorem celAt_eq' : celAt ⟨γ, S⟩ i = celS γ[i]? S := by
  unfold celAt
  dsimp only
  cases h : γ[i]? with
  | none => rfl
  | some x => cases x <;> rfl
@[simp] theorem gCpop_eq : gCpop i j st = (srcAt st i).bind fun _ => (celAt st j).bind fun s => (popS s).map fun s' => (.nx, { st with S := some s' }) := rfl
@[simp] theorem gScel_eq : gScel j i st = (srcAt st i).map fun _ => (.nx, setS st j .cel) := rfl
end
end DE

set_option Elab.async false
set_option linter.all false
set_option maxRecDepth 100000
set_option maxHeartbeats 4000000
set_option autoImplicit false
/-! Series: products, powers, roots. -/
namespace DE
section
variable {a b c p t h r : Nat → Rat}
theorem sumR_front {n : Nat} {F : Nat → Rat} : sumR (n + 1) F = F 0 + sumR n fun i => F (i + 1) := by
  induction n with
  | zero => simp [sumR]; grind
  | succ n ih => rw [sumR, ih, sumR]; grind
theorem sumR_rev {n : Nat} {F : Nat → Rat} : sumR n F = sumR n fun i => F (n - 1 - i) := by
  induction n generalizing F with
  | zero => rfl
  | succ n ih =>
    rw [sumR_front, ih, sumR]
    rw [sumR_congr (G := fun i => F (n + 1 - 1 - i)) fun i hi => by
      show F (n - 1 - i + 1) = _
      congr 1; omega]
    simp; grind
/-- the product -/
def cv (a b : Nat → Rat) (m : Nat) : Rat := sumR (m + 1) fun i => a i * b (m - i)
theorem cv_congr {a' b' : Nat → Rat} {m : Nat} (ha : ∀ i, i ≤ m → a i = a' i) (hb : ∀ i, i ≤ m → b i = b' i) : cv a b m = cv a' b' m := sumR_congr fun i hi => by rw [ha i (by omega), hb _ (by omega)]
theorem cv_comm (m : Nat) : cv a b m = cv b a m := by
  unfold cv
  rw [sumR_rev]
  refine sumR_congr fun i hi => ?_
  have : m - (m + 1 - 1 - i) = i := by omega
  rw [this, Rat.mul_comm]
  simp
theorem tri {G : Nat → Nat → Rat} (n : Nat) : sumR n (fun i => sumR (i + 1) fun j => G j (i - j)) = sumR n fun j => sumR (n - j) fun l => G j l := by
  induction n with
  | zero => rfl
  | succ n ih =>
    rw [sumR, ih, sumR, sumR]
    rw [sumR_congr (G := fun j => sumR (n - j) (fun l => G j l) + G j (n - j)) (F := fun j => sumR (n + 1 - j) fun l => G j l) fun j hj => by
      have : n + 1 - j = (n - j) + 1 := by omega
      simp only [this, sumR]]
    rw [sumR_add]
    have e : n + 1 - n = 1 := by omega
    simp only [e, sumR, Nat.sub_self]
    grind
theorem sumR_mulr {n : Nat} {F : Nat → Rat} {c : Rat} : sumR n (fun i => F i * c) = sumR n F * c := by
  rw [Rat.mul_comm, ← sumR_mul]
  exact sumR_congr fun i _ => Rat.mul_comm ..
theorem cv_assoc (m : Nat) : cv (cv a b) c m = cv a (cv b c) m := by
  have e1 : cv (cv a b) c m = sumR (m + 1) fun i => sumR (i + 1) fun j => (fun j l => a j * b l * c (m - j - l)) j (i - j) := sumR_congr fun i hi => by
    show cv a b i * c (m - i) = _
    rw [cv, ← sumR_mulr]
    refine sumR_congr fun j hj => ?_
    show _ = a j * b (i - j) * c (m - j - (i - j))
    have : m - j - (i - j) = m - i := by omega
    rw [this]
  rw [e1, tri (G := fun j l => a j * b l * c (m - j - l)) (m + 1)]
  refine sumR_congr fun j hj => ?_
  show _ = a j * cv b c (m - j)
  rw [cv, ← sumR_mul]
  have : m + 1 - j = m - j + 1 := by omega
  rw [this]
  exact sumR_congr fun l hl => by show a j * b l * c (m - j - l) = _; rw [Rat.mul_assoc]
theorem cv_right (m : Nat) : cv (cv p t) a m = cv (cv p a) t m := by
  rw [cv_assoc, cv_assoc]
  exact cv_congr (fun _ _ => rfl) fun i _ => cv_comm i
/-- powers -/
def one_ : Nat → Rat := fun i => if i = 0 then 1 else 0
def pw (a : Nat → Rat) : Nat → Nat → Rat
  | 0 => one_
  | k + 1 => cv (pw a k) a
theorem cv_one (m : Nat) : cv one_ a m = a m := by
  unfold cv
  rw [sumR_one (k := 0) (by omega) fun i _ hi => by simp [one_, hi]]
  simp [one_]
theorem pw_one (m : Nat) : pw a 1 m = a m := cv_one m
theorem pw_congr {m : Nat} : ∀ (k : Nat), (∀ i, i ≤ m → a i = b i) → ∀ i, i ≤ m → pw a k i = pw b k i
  | 0, _, _, _ => rfl
  | k + 1, h, i, hi => cv_congr (fun j hj => pw_congr k h j (by omega)) fun j hj => h j (by omega)
theorem pw_zero (h : a 0 = 1) : ∀ k, pw a k 0 = 1
  | 0 => rfl
  | k + 1 => by
    show cv (pw a k) a 0 = 1
    simp only [cv, sumR, Nat.sub_zero, pw_zero h k, h]
    grind
theorem cv_split (m : Nat) : cv a b (m + 1) = a 0 * b (m + 1) + (sumR m fun i => a (i + 1) * b (m - i)) + a (m + 1) * b 0 := by
  unfold cv
  rw [sumR, sumR_front, Nat.sub_self]
  rw [sumR_congr (F := fun i => a (i + 1) * b (m + 1 - (i + 1))) (G := fun i => a (i + 1) * b (m - i)) fun i hi => by
    have : m + 1 - (i + 1) = m - i := by omega
    rw [this]]
  rfl
/-- two that are alike up to j: their powers -/
theorem pw_step {j : Nat} (h : ∀ i, i ≤ j → a i = b i) (h0 : a 0 = 1) : ∀ k : Nat, pw a k (j + 1) - pw b k (j + 1) = k * (a (j + 1) - b (j + 1))
  | 0 => by
    show one_ (j + 1) - one_ (j + 1) = ((0 : Nat) : Rat) * _
    have : ((0 : Nat) : Rat) = 0 := rfl
    rw [this]; grind
  | k + 1 => by
    have ih := pw_step h h0 k
    have b0 : b 0 = 1 := by rw [← h 0 (by omega)]; exact h0
    show cv (pw a k) a (j + 1) - cv (pw b k) b (j + 1) = _
    rw [cv_split, cv_split, pw_zero h0, pw_zero b0, h0, b0]
    have e : (sumR j fun i => pw a k (i + 1) * a (j - i)) = sumR j fun i => pw b k (i + 1) * b (j - i) := sumR_congr fun i hi => by
      rw [pw_congr k h (i + 1) (by omega), h (j - i) (by omega)]
    rw [e]
    have : ((k + 1 : Nat) : Rat) = (k : Rat) + 1 := by rw [Rat.natCast_add]; rfl
    rw [this]
    grind
/-- places times numbers -/
def th (a : Nat → Rat) (i : Nat) : Rat := (i : Rat) * a i
theorem th_cv (m : Nat) : th (cv a b) m = cv (th a) b m + cv a (th b) m := by
  unfold th cv
  rw [← sumR_mul, ← sumR_add]
  refine sumR_congr fun i hi => ?_
  have : ((m : Nat) : Rat) = (i : Rat) + ((m - i : Nat) : Rat) := by rw [← Rat.natCast_add]; congr 1; omega
  rw [this]
  grind
theorem cv_scale {x : Rat} (m : Nat) : cv (fun i => x * a i) b m = x * cv a b m := by
  unfold cv
  rw [← sumR_mul]
  exact sumR_congr fun i _ => by rw [Rat.mul_assoc]
theorem th_pw : ∀ (k m : Nat), th (pw a (k + 1)) m = (k + 1 : Nat) * cv (pw a k) (th a) m
  | 0, m => by
    show th (cv one_ a) m = _
    have : ((0 + 1 : Nat) : Rat) = 1 := rfl
    rw [this, th, cv_one]
    show _ = 1 * cv one_ (th a) m
    rw [cv_one, th]; grind
  | k + 1, m => by
    show th (cv (pw a (k + 1)) a) m = _
    rw [th_cv]
    have e : cv (th (pw a (k + 1))) a m = ((k + 1 : Nat) : Rat) * cv (pw a (k + 1)) (th a) m := by
      rw [cv_congr (a' := fun i => ((k + 1 : Nat) : Rat) * cv (pw a k) (th a) i) (b' := a) (fun i _ => th_pw k i) fun _ _ => rfl, cv_scale, cv_right]
      rfl
    rw [e]
    have : ((k + 1 + 1 : Nat) : Rat) = ((k + 1 : Nat) : Rat) + 1 := by rw [Rat.natCast_add]; rfl
    rw [this]; grind
theorem th_root (k m : Nat) : cv (th (pw r (k + 1))) r m = (k + 1 : Nat) * cv (pw r (k + 1)) (th r) m := by
  rw [cv_congr (a' := fun i => ((k + 1 : Nat) : Rat) * cv (pw r k) (th r) i) (b' := r) (fun i _ => th_pw k i) fun _ _ => rfl, cv_scale, cv_right]
  rfl
/-- what a root's numbers come from, each from those ahead -/
theorem root_rec {n : Nat} (hn : 0 < n) (h0 : r 0 = 1) (j : Nat) (hh : ∀ i, i ≤ j + 1 → pw r n i = h i) :
    ((j + 1 : Nat) : Rat) * n * r (j + 1) = sumR (j + 1) fun i => (((i + 1 : Nat) : Rat) * (1 + n) - ((j + 1 : Nat) : Rat) * n) * (h (i + 1) * r (j - i)) := by
  obtain ⟨k, rfl⟩ : ∃ k, n = k + 1 := ⟨n - 1, by omega⟩
  have e := th_root (r := r) k (j + 1)
  have hp0 : h 0 = 1 := by rw [← hh 0 (by omega)]; exact pw_zero h0 _
  rw [cv_congr (a' := th h) (b' := r) (fun i hi => by unfold th; rw [hh i hi]) fun _ _ => rfl, cv_congr (a := pw r (k + 1)) (a' := h) (b' := th r) (fun i hi => hh i hi) fun _ _ => rfl] at e
  unfold cv at e
  rw [sumR_front (F := fun i => th h i * r (j + 1 - i)), sumR_front (F := fun i => h i * th r (j + 1 - i))] at e
  have z : th h 0 = 0 := by unfold th; rw [show ((0 : Nat) : Rat) = 0 from rfl]; grind
  rw [z, hp0, Nat.sub_zero] at e
  have t1 : th r (j + 1) = ((j + 1 : Nat) : Rat) * r (j + 1) := rfl
  rw [t1] at e
  have e2 : (sumR (j + 1) fun i => (((i + 1 : Nat) : Rat) * (1 + ((k + 1 : Nat) : Rat)) - ((j + 1 : Nat) : Rat) * ((k + 1 : Nat) : Rat)) * (h (i + 1) * r (j - i))) = sumR (j + 1) (fun i => th h (i + 1) * r (j + 1 - (i + 1))) + sumR (j + 1) (fun i => (-((k + 1 : Nat) : Rat)) * (h (i + 1) * th r (j + 1 - (i + 1)))) := by
    rw [← sumR_add]
    refine sumR_congr fun i hi => ?_
    have s : j + 1 - (i + 1) = j - i := by omega
    have c : ((j + 1 : Nat) : Rat) = ((i + 1 : Nat) : Rat) + ((j - i : Nat) : Rat) := by rw [← Rat.natCast_add]; congr 1; omega
    rw [s, c]
    unfold th
    grind
  rw [e2, sumR_mul]
  grind
/-! the root, by its powers -/
def rootL (h : Nat → Rat) (n : Nat) : Nat → List Rat
  | 0 => [1]
  | j + 1 => rootL h n j ++ [(h (j + 1) - pw (co (rootL h n j)) n (j + 1)) / n]
theorem rootL_len (h : Nat → Rat) (n : Nat) : ∀ j, (rootL h n j).length = j + 1
  | 0 => rfl
  | j + 1 => by simp [rootL, rootL_len h n j]
def root (h : Nat → Rat) (n j : Nat) : Rat := co (rootL h n j) j
theorem co_append_l {f g : List Rat} {i : Nat} (hi : i < f.length) : co (f ++ g) i = co f i := by simp [co, List.getD, List.getElem?_append_left hi]
theorem co_append_last {f : List Rat} {x : Rat} : co (f ++ [x]) f.length = x := by simp [co, List.getD]
theorem rootL_co (h : Nat → Rat) (n : Nat) : ∀ {j i : Nat}, i ≤ j → co (rootL h n j) i = root h n i := by
  intro j
  induction j with
  | zero => intro i hi; have : i = 0 := by omega
            subst this; rfl
  | succ j ih =>
    intro i hi
    by_cases e : i = j + 1
    · subst e; rfl
    · rw [rootL, co_append_l (by rw [rootL_len]; omega), ih (by omega)]
theorem rootL_eq (h : Nat → Rat) (n j : Nat) : rootL h n j = (List.range (j + 1)).map (root h n) := list_ext (by rw [rootL_len]; simp) fun i => by
  rw [co_map]
  split
  · rw [rootL_co h n (by omega)]
  · rw [co_ge (by rw [rootL_len]; omega)]
theorem root_zero (h : Nat → Rat) (n : Nat) : root h n 0 = 1 := rfl
theorem root_succ (h : Nat → Rat) (n j : Nat) : root h n (j + 1) = (h (j + 1) - pw (co (rootL h n j)) n (j + 1)) / n := by
  show co (rootL h n j ++ [_]) (j + 1) = _
  have := co_append_last (f := rootL h n j) (x := (h (j + 1) - pw (co (rootL h n j)) n (j + 1)) / n)
  rw [rootL_len] at this
  exact this
theorem natR_ne {n : Nat} (hn : 0 < n) : (n : Rat) ≠ 0 := fun z => by
  have : n = 0 := by exact_mod_cast z
  omega
theorem root_pw {n : Nat} (hn : 0 < n) (hh : h 0 = 1) : ∀ j, pw (root h n) n j = h j
  | 0 => by rw [hh]; exact pw_zero (root_zero h n) n
  | j + 1 => by
    have s := pw_step (a := root h n) (b := co (rootL h n j)) (j := j) (fun i hi => (rootL_co h n hi).symm) (root_zero h n) n
    have z : co (rootL h n j) (j + 1) = 0 := co_ge (by rw [rootL_len]; omega)
    rw [z, root_succ] at s
    have nz := natR_ne hn
    have : (n : Rat) * ((h (j + 1) - pw (co (rootL h n j)) n (j + 1)) / n - 0) = h (j + 1) - pw (co (rootL h n j)) n (j + 1) := by
      rw [Rat.sub_eq_add_neg, Rat.neg_zero, Rat.add_zero, Rat.mul_comm, Rat.div_mul_cancel nz]
    rw [this] at s
    grind
/-- just one row has the power -/
theorem root_unique {n t : Nat} (hn : 0 < n) (ha : a 0 = 1) (hh : h 0 = 1) (e : ∀ i, i < t → pw a n i = h i) : ∀ i, i < t → a i = root h n i := by
  intro i
  induction i using Nat.strongRecOn with
  | _ i ih =>
    intro hi
    cases i with
    | zero => rw [ha, root_zero]
    | succ j =>
      have s := pw_step (a := a) (b := root h n) (j := j) (fun l hl => ih l (by omega) (by omega)) ha n
      rw [e _ hi, root_pw hn hh] at s
      have z : (n : Rat) * (a (j + 1) - root h n (j + 1)) = 0 := by rw [← s]; grind
      rcases Rat.mul_eq_zero.mp z with z | z
      · exact absurd z (natR_ne hn)
      · grind
end
end DE

set_option Elab.async false
set_option linter.all false
set_option maxRecDepth 100000
set_option maxHeartbeats 4000000
set_option exponentiation.threshold 200000
set_option autoImplicit false
/-! Sizes, by a common bottom number. -/
namespace DE
section
variable {x y : Rat} {D E M N n m : Nat} {a b h : Nat → Rat}
def Iw (D M : Nat) (x : Rat) : Prop := ∃ z : Int, x * (D : Rat) = z ∧ z.natAbs ≤ M
theorem Iw.mono (hx : Iw D M x) (h : M ≤ N) : Iw D N x := by
  obtain ⟨z, e, l⟩ := hx
  exact ⟨z, e, Nat.le_trans l h⟩
theorem Iw.scale (c : Nat) (hx : Iw D M x) : Iw (D * c) (M * c) x := by
  obtain ⟨z, e, l⟩ := hx
  refine ⟨z * c, ?_, ?_⟩
  · rw [Rat.natCast_mul, ← Rat.mul_assoc, e, Rat.intCast_mul]; rfl
  · rw [Int.natAbs_mul, Int.natAbs_natCast]; exact Nat.mul_le_mul_right _ l
theorem Iw.add (hx : Iw D M x) (hy : Iw D N y) : Iw D (M + N) (x + y) := by
  obtain ⟨z, e, l⟩ := hx
  obtain ⟨w, e2, l2⟩ := hy
  refine ⟨z + w, ?_, ?_⟩
  · rw [Rat.add_mul, e, e2, Rat.intCast_add]
  · have := Int.natAbs_add_le z w; omega
theorem Iw.mul (hx : Iw D M x) (hy : Iw E N y) : Iw (D * E) (M * N) (x * y) := by
  obtain ⟨z, e, l⟩ := hx
  obtain ⟨w, e2, l2⟩ := hy
  refine ⟨z * w, ?_, ?_⟩
  · rw [Rat.intCast_mul, ← e, ← e2, Rat.natCast_mul]; grind
  · rw [Int.natAbs_mul]; exact Nat.mul_le_mul l l2
theorem Iw.zero (D M : Nat) : Iw D M 0 := ⟨0, by rw [Rat.zero_mul]; rfl, Nat.zero_le _⟩
theorem Iw.neg (hx : Iw D M x) : Iw D M (-x) := by
  obtain ⟨z, e, l⟩ := hx
  exact ⟨-z, by rw [Rat.neg_mul, e, Rat.intCast_neg], by rw [Int.natAbs_neg]; exact l⟩
theorem iw_int (z : Int) : Iw 1 z.natAbs (z : Rat) := ⟨z, by rw [show ((1 : Nat) : Rat) = 1 from rfl, Rat.mul_one], Nat.le_refl _⟩
theorem Iw.one' (hx : Iw 1 M x) (hD : 0 < D) : Iw D (M * D) x := by
  have := hx.scale D
  rwa [Nat.one_mul] at this
theorem Iw.sum {F : Nat → Rat} (hF : ∀ i, i < n → Iw D M (F i)) : Iw D (n * M) (sumR n F) := by
  induction n with
  | zero => exact Iw.zero _ _
  | succ n ih =>
    rw [Nat.succ_mul]
    exact (ih fun i hi => hF i (by omega)).add (hF n (by omega))
theorem natR_ne' (hD : 0 < D) : (D : Rat) ≠ 0 := natR_ne hD
theorem Iw.eq (hD : 0 < D) (hx : Iw D M x) : ∃ z : Int, x = Rat.divInt z D ∧ z.natAbs ≤ M := by
  obtain ⟨z, e, l⟩ := hx
  refine ⟨z, ?_, l⟩
  rw [Rat.divInt_eq_div, ← e]
  show x = x * (D : Rat) / (D : Rat)
  rw [Rat.mul_div_cancel (natR_ne' hD)]
theorem Iw.hbn (hD : 0 < D) (hx : Iw D M x) {k : Nat} (hM : M < 2 ^ k) : x.num.natAbs < 2 ^ k := by
  obtain ⟨z, rfl, l⟩ := hx.eq hD
  exact natAbs_div_lt (Nat.lt_of_le_of_lt l hM) (by omega)
theorem Iw.hbd (hD : 0 < D) (hx : Iw D M x) {k : Nat} (hM : D < 2 ^ k) : x.den < 2 ^ k := by
  obtain ⟨z, rfl, l⟩ := hx.eq hD
  exact den_div_lt (by rw [Int.natAbs_natCast]; exact hM) (by omega)
theorem Iw.hb (hD : 0 < D) (hx : Iw D M x) {k : Nat} (h1 : M < 2 ^ k) (h2 : D < 2 ^ k) : Hb k x := ⟨hx.hbn hD h1, hx.hbd hD h2⟩
theorem Iw.dvd (hD : 0 < D) (hx : Iw D M x) : x.den ∣ D := by
  obtain ⟨z, rfl, l⟩ := hx.eq hD
  have : ((Rat.divInt z D).den : Int) ∣ (D : Int) := by
    have := low_pos (p := z) (q := (D : Int)) (by omega)
    rw [this.2]
    exact ⟨g2 z D, (Int.ediv_mul_cancel (g2_dvd_r z D)).symm⟩
  exact Int.natCast_dvd_natCast.mp this
theorem iw_of (hd : x.den ∣ D) (hn : x.num.natAbs ≤ N) : Iw D (N * D) x := by
  refine ⟨wn D x, ?_, ?_⟩
  · rw [wn_eq hd, Rat.mul_comm]
  · unfold wn
    rw [Int.natAbs_mul, Int.natAbs_natCast]
    exact Nat.mul_le_mul hn (Nat.div_le_self _ _)
theorem cv_iw (ha : ∀ i, i ≤ m → Iw D M (a i)) (hb : ∀ i, i ≤ m → Iw E N (b i)) : Iw (D * E) ((m + 1) * (M * N)) (cv a b m) := Iw.sum fun i hi => (ha i (by omega)).mul (hb _ (by omega))
theorem pw_iw (hm : m < 12) (ha : ∀ i, i ≤ m → Iw D M (a i)) : ∀ (k i : Nat), i ≤ m → Iw (D ^ k) ((12 * M) ^ k) (pw a k i)
  | 0, i, _ => by
    show Iw 1 1 (one_ i)
    unfold one_
    split
    · exact ⟨1, by decide +kernel, Nat.le_refl _⟩
    · exact Iw.zero _ _
  | k + 1, i, hi => by
    rw [Nat.pow_succ, Nat.pow_succ]
    refine (cv_iw (fun j hj => pw_iw hm ha k j (by omega)) (fun j hj => ha j (by omega))).mono ?_
    rw [← Nat.mul_assoc, Nat.mul_comm (i + 1), Nat.mul_assoc]
    exact Nat.mul_le_mul_left _ (Nat.mul_le_mul_right _ (by omega))
/-! the sizes of a root's numbers -/
def fct : Nat → Nat
  | 0 => 1
  | j + 1 => (j + 1) * fct j
theorem fct_pos : ∀ j, 0 < fct j
  | 0 => Nat.one_pos
  | j + 1 => Nat.mul_pos (by omega) (fct_pos j)
def Wn (n j : Nat) : Nat := (360 * n) ^ j * fct j
theorem Wn_pos (hn : 0 < n) (j : Nat) : 0 < Wn n j := Nat.mul_pos (Nat.pow_pos (by omega)) (fct_pos j)
theorem Wn_succ (n j : Nat) : Wn n (j + 1) = Wn n j * (360 * n * (j + 1)) := by
  show (360 * n) ^ (j + 1) * ((j + 1) * fct j) = (360 * n) ^ j * fct j * (360 * n * (j + 1))
  rw [Nat.pow_succ]
  generalize (360 * n) ^ j = A
  generalize fct j = B
  simp only [Nat.mul_assoc, Nat.mul_comm, Nat.mul_left_comm]
theorem root_iw (hn : 0 < n) (hh : h 0 = 1) (H : ∀ i, Iw 360 5400 (h i)) : ∀ j i, i ≤ j → Iw (Wn n j) (16 ^ i * Wn n j) (root h n i) := by
  intro j
  induction j with
  | zero =>
    intro i hi
    have : i = 0 := by omega
    subst this
    rw [root_zero]
    exact ⟨1, by simp only [Wn, fct, Nat.pow_zero, Nat.mul_one]; decide +kernel, by simp [Wn, fct]⟩
  | succ j ih =>
    intro i hi
    by_cases e : i ≤ j
    · have := (ih i e).scale (360 * n * (j + 1))
      rw [Wn_succ, ← Nat.mul_assoc (16 ^ i)]
      exact this
    · have : i = j + 1 := by omega
      subst this
      have rc := root_rec (r := root h n) (h := h) hn (root_zero h n) j fun i _ => root_pw hn hh i
      have key : ∀ m, m ≤ j + 1 → ∃ N, Iw (360 * Wn n j) N (sumR m fun i => (((i + 1 : Nat) : Rat) * (1 + n) - ((j + 1 : Nat) : Rat) * n) * (h (i + 1) * root h n (j - i))) ∧ N + (n * (j + 1) * (360 * Wn n j)) * 16 ^ (j + 1 - m) ≤ (n * (j + 1) * (360 * Wn n j)) * 16 ^ (j + 1) := by
        intro m
        induction m with
        | zero => exact fun _ => ⟨0, Iw.zero _ _, by simp⟩
        | succ m im =>
          intro hm
          obtain ⟨N, h1, h2⟩ := im (by omega)
          have hc : Iw 1 (n * (j + 1)) (((m + 1 : Nat) : Rat) * (1 + n) - ((j + 1 : Nat) : Rat) * n) := by
            have e : (((m + 1 : Nat) : Rat) * (1 + n) - ((j + 1 : Nat) : Rat) * n) = (((((m + 1) * (1 + n) : Nat) : Int) - (((j + 1) * n : Nat) : Int) : Int) : Rat) := by
              rw [Rat.intCast_sub]
              show _ = (((m + 1) * (1 + n) : Nat) : Rat) - (((j + 1) * n : Nat) : Rat)
              rw [Rat.natCast_mul, Rat.natCast_mul, Rat.natCast_add 1 n]
              rfl
            rw [e]
            refine (iw_int _).mono ?_
            have e1 : (m + 1) * (1 + n) = (m + 1) + (m + 1) * n := by rw [Nat.mul_add, Nat.mul_one]
            have l1 : (m + 1) * n ≤ (j + 1) * n := Nat.mul_le_mul_right _ (by omega)
            have l2 : (j + 1) * 1 ≤ (j + 1) * n := Nat.mul_le_mul_left _ hn
            rw [Nat.mul_comm n, e1]
            omega
          have ht := hc.mul ((H (m + 1)).mul (ih (j - m) (by omega)))
          rw [Nat.one_mul] at ht
          refine ⟨_, h1.add ht, ?_⟩
          have e2 : j + 1 - m = (j - m) + 1 := by omega
          have e3 : j + 1 - (m + 1) = j - m := by omega
          rw [e2, Nat.pow_succ] at h2
          rw [e3]
          have e4 : n * (j + 1) * (5400 * (16 ^ (j - m) * Wn n j)) = 15 * (n * (j + 1) * (360 * Wn n j) * 16 ^ (j - m)) := by
            rw [show 5400 = 15 * 360 from rfl]
            simp only [Nat.mul_assoc, Nat.mul_comm, Nat.mul_left_comm]
          rw [e4]
          have e5 : n * (j + 1) * (360 * Wn n j) * (16 ^ (j - m) * 16) = 16 * (n * (j + 1) * (360 * Wn n j) * 16 ^ (j - m)) := by
            simp only [Nat.mul_assoc, Nat.mul_comm, Nat.mul_left_comm]
          rw [e5] at h2
          generalize n * (j + 1) * (360 * Wn n j) * 16 ^ (j - m) = B at *
          omega
      obtain ⟨N, h1, h2⟩ := key (j + 1) (Nat.le_refl _)
      rw [← rc] at h1
      obtain ⟨z, e1, l1⟩ := h1
      refine ⟨z, ?_, ?_⟩
      · rw [← e1, Wn_succ]
        simp only [Rat.natCast_mul]
        grind
      · refine Nat.le_trans l1 (Nat.le_trans (Nat.le_add_right _ _) (Nat.le_trans h2 ?_))
        rw [Wn_succ]
        apply Nat.le_of_eq
        simp only [Nat.mul_assoc, Nat.mul_comm, Nat.mul_left_comm]
theorem Wn_lt (hn : 0 < n) (h12 : n ≤ 12) : Wn n 11 < 2 ^ 159 := by
  refine Nat.lt_of_le_of_lt (Nat.mul_le_mul_right _ (Nat.pow_le_pow_left (Nat.mul_le_mul_left 360 h12) 11)) ?_
  decide +kernel
/-- all of a root's first twelve numbers -/
theorem root_iw' (hn : 0 < n) (hh : h 0 = 1) (H : ∀ i, Iw 360 5400 (h i)) {i : Nat} (hi : i < 12) : Iw (Wn n 11) (2 ^ 44 * Wn n 11) (root h n i) :=
  (root_iw hn hh H 11 i (by omega)).mono (Nat.mul_le_mul_right _ (Nat.le_trans (Nat.pow_le_pow_right (by decide) (by omega : i ≤ 11)) (by decide)))
theorem root_hb (hn : 0 < n) (h12 : n ≤ 12) (hh : h 0 = 1) (H : ∀ i, Iw 360 5400 (h i)) {i : Nat} (hi : i < 12) : (root h n i).num.natAbs < 2 ^ 203 ∧ (root h n i).den < 2 ^ 159 := by
  have w := Wn_lt hn h12
  have r := root_iw' hn hh H hi
  exact ⟨r.hbn (Wn_pos hn 11) (by
    have := Nat.mul_lt_mul_of_pos_left w (Nat.two_pow_pos 44)
    rw [← Nat.pow_add] at this
    exact this), r.hbd (Wn_pos hn 11) w⟩
/-- a row of numbers that may be raised to a power -/
def Rz (a : Nat → Rat) : Prop := ∃ D M, 0 < D ∧ D < 2 ^ 369 ∧ M < 2 ^ 600 ∧ ∀ i, Iw D M (a i)
theorem rz_pw (r : Rz a) : ∃ D M, (∀ i, Iw D M (a i)) ∧ ∀ k, k ≤ 12 → 0 < D ^ k ∧ D ^ k < 2 ^ 4480 ∧ (12 * M) ^ k < 2 ^ 10000 := by
  obtain ⟨D, M, h0, h1, h2, h3⟩ := r
  refine ⟨D, M, h3, fun k hk => ⟨Nat.pow_pos h0, ?_, ?_⟩⟩
  · refine Nat.lt_of_le_of_lt (Nat.pow_le_pow_left (Nat.le_of_lt h1) k) ?_
    rw [← Nat.pow_mul]
    exact Nat.pow_lt_pow_right (by decide) (by omega)
  · refine Nat.lt_of_le_of_lt (Nat.pow_le_pow_left (m := 2 ^ 604) ?_ k) ?_
    · have : 12 * M ≤ 16 * 2 ^ 600 := by omega
      exact Nat.le_trans this (by decide +kernel)
    · rw [← Nat.pow_mul]
      exact Nat.pow_lt_pow_right (by decide) (by omega)
end
end DE

set_option Elab.async false
set_option linter.all false
set_option maxRecDepth 100000
set_option maxHeartbeats 4000000
set_option exponentiation.threshold 200000
set_option autoImplicit false
/-! Powers of polynomials from the top; candidates. -/
namespace DE
section
variable {x y : Rat} {D E M N n m q k H A : Nat} {a b h : Nat → Rat} {f g p : List Rat}
theorem pw_iw' {c : Nat} (hm : m < c) (ha : ∀ i, i ≤ m → Iw D M (a i)) : ∀ (k i : Nat), i ≤ m → Iw (D ^ k) ((c * M) ^ k) (pw a k i)
  | 0, i, _ => by
    show Iw 1 1 (one_ i)
    unfold one_
    split
    · exact ⟨1, by decide +kernel, Nat.le_refl _⟩
    · exact Iw.zero _ _
  | k + 1, i, hi => by
    rw [Nat.pow_succ, Nat.pow_succ]
    refine (cv_iw (fun j hj => pw_iw' hm ha k j (by omega)) (fun j hj => ha j (by omega))).mono ?_
    rw [← Nat.mul_assoc, Nat.mul_comm (i + 1), Nat.mul_assoc]
    exact Nat.mul_le_mul_left _ (Nat.mul_le_mul_right _ (by omega))
def WnH (H n j : Nat) : Nat := (H * n) ^ j * fct j
theorem WnH_pos (hH : 0 < H) (hn : 0 < n) (j : Nat) : 0 < WnH H n j := Nat.mul_pos (Nat.pow_pos (Nat.mul_pos hH hn)) (fct_pos j)
theorem WnH_succ (H n j : Nat) : WnH H n (j + 1) = WnH H n j * (H * n * (j + 1)) := by
  show (H * n) ^ (j + 1) * ((j + 1) * fct j) = (H * n) ^ j * fct j * (H * n * (j + 1))
  rw [Nat.pow_succ]
  generalize (H * n) ^ j = P
  generalize fct j = Q
  generalize H * n = R
  simp only [Nat.mul_assoc, Nat.mul_comm, Nat.mul_left_comm]
theorem rootH_iw (hn : 0 < n) (hh : h 0 = 1) (Hh : ∀ i, Iw H (A * H) (h i)) : ∀ j i, i ≤ j → Iw (WnH H n j) ((A + 1) ^ i * WnH H n j) (root h n i) := by
  intro j
  induction j with
  | zero =>
    intro i hi
    have : i = 0 := by omega
    subst this
    rw [root_zero]
    exact ⟨1, by simp only [WnH, fct, Nat.pow_zero, Nat.mul_one]; decide +kernel, by simp [WnH, fct]⟩
  | succ j ih =>
    intro i hi
    by_cases e : i ≤ j
    · have := (ih i e).scale (H * n * (j + 1))
      rw [WnH_succ, ← Nat.mul_assoc ((A + 1) ^ i)]
      exact this
    · have : i = j + 1 := by omega
      subst this
      have rc := root_rec (r := root h n) (h := h) hn (root_zero h n) j fun i _ => root_pw hn hh i
      have key : ∀ m, m ≤ j + 1 → ∃ N, Iw (H * WnH H n j) N (sumR m fun i => (((i + 1 : Nat) : Rat) * (1 + n) - ((j + 1 : Nat) : Rat) * n) * (h (i + 1) * root h n (j - i))) ∧ N + (n * (j + 1) * (H * WnH H n j)) * (A + 1) ^ (j + 1 - m) ≤ (n * (j + 1) * (H * WnH H n j)) * (A + 1) ^ (j + 1) := by
        intro m
        induction m with
        | zero => exact fun _ => ⟨0, Iw.zero _ _, by simp⟩
        | succ m im =>
          intro hm
          obtain ⟨N, h1, h2⟩ := im (by omega)
          have hc : Iw 1 (n * (j + 1)) (((m + 1 : Nat) : Rat) * (1 + n) - ((j + 1 : Nat) : Rat) * n) := by
            have e : (((m + 1 : Nat) : Rat) * (1 + n) - ((j + 1 : Nat) : Rat) * n) = (((((m + 1) * (1 + n) : Nat) : Int) - (((j + 1) * n : Nat) : Int) : Int) : Rat) := by
              rw [Rat.intCast_sub]
              show _ = (((m + 1) * (1 + n) : Nat) : Rat) - (((j + 1) * n : Nat) : Rat)
              rw [Rat.natCast_mul, Rat.natCast_mul, Rat.natCast_add 1 n]
              rfl
            rw [e]
            refine (iw_int _).mono ?_
            have e1 : (m + 1) * (1 + n) = (m + 1) + (m + 1) * n := by rw [Nat.mul_add, Nat.mul_one]
            have l1 : (m + 1) * n ≤ (j + 1) * n := Nat.mul_le_mul_right _ (by omega)
            have l2 : (j + 1) * 1 ≤ (j + 1) * n := Nat.mul_le_mul_left _ hn
            rw [Nat.mul_comm n, e1]
            omega
          have ht := hc.mul ((Hh (m + 1)).mul (ih (j - m) (by omega)))
          rw [Nat.one_mul] at ht
          refine ⟨_, h1.add ht, ?_⟩
          have e2 : j + 1 - m = (j - m) + 1 := by omega
          have e3 : j + 1 - (m + 1) = j - m := by omega
          rw [e2, Nat.pow_succ] at h2
          rw [e3]
          have e4 : n * (j + 1) * (A * H * ((A + 1) ^ (j - m) * WnH H n j)) = A * (n * (j + 1) * (H * WnH H n j) * (A + 1) ^ (j - m)) := by
            generalize (A + 1) ^ (j - m) = Z
            simp only [Nat.mul_assoc, Nat.mul_comm, Nat.mul_left_comm]
          rw [e4]
          have e5 : n * (j + 1) * (H * WnH H n j) * ((A + 1) ^ (j - m) * (A + 1)) = A * (n * (j + 1) * (H * WnH H n j) * (A + 1) ^ (j - m)) + n * (j + 1) * (H * WnH H n j) * (A + 1) ^ (j - m) := by
            rw [← Nat.mul_assoc, Nat.mul_comm _ (A + 1), Nat.succ_mul]
          rw [e5] at h2
          generalize n * (j + 1) * (H * WnH H n j) * (A + 1) ^ (j - m) = B at *
          generalize A * B = AB at *
          omega
      obtain ⟨N, h1, h2⟩ := key (j + 1) (Nat.le_refl _)
      rw [← rc] at h1
      obtain ⟨z, e1, l1⟩ := h1
      refine ⟨z, ?_, ?_⟩
      · rw [← e1, WnH_succ]
        simp only [Rat.natCast_mul]
        grind
      · refine Nat.le_trans l1 (Nat.le_trans (Nat.le_add_right _ _) (Nat.le_trans h2 ?_))
        rw [WnH_succ]
        apply Nat.le_of_eq
        generalize (A + 1) ^ (j + 1) = Z
        simp only [Nat.mul_assoc, Nat.mul_comm, Nat.mul_left_comm]
theorem fct_le : ∀ {j : Nat}, j ≤ 16 → fct j ≤ 16 ^ j
  | 0, _ => Nat.le_refl _
  | j + 1, h => by
    rw [fct, Nat.pow_succ, Nat.mul_comm]
    exact Nat.mul_le_mul (fct_le (by omega)) (by omega)
/-- the powers of a root's bottoms -/
theorem WnH_pow {j : Nat} (hH : 0 < H) (hq : 0 < q) (hj : q * (j + 1) ≤ 16) (k : Nat) (hk : k ≤ q) : WnH H q j ^ k ≤ (H * 256) ^ 16 ∧ ((A + 1) ^ j * WnH H q j) ^ k ≤ ((A + 1) * (H * 256)) ^ 16 := by
  have q16 : q ≤ 16 := Nat.le_trans (Nat.le_mul_of_pos_right _ (by omega)) hj
  have j16 : j + 1 ≤ 16 := Nat.le_trans (Nat.le_mul_of_pos_left _ hq) hj
  have jk : j * k ≤ 16 := by
    refine Nat.le_trans (Nat.mul_le_mul_left j hk) ?_
    rw [Nat.mul_comm]
    exact Nat.le_trans (Nat.mul_le_mul_left q (by omega : j ≤ j + 1)) hj
  have b : WnH H q j ≤ (H * 256) ^ j := by
    unfold WnH
    rw [show (256 : Nat) = 16 * 16 from rfl, ← Nat.mul_assoc, Nat.mul_pow (H * 16)]
    exact Nat.mul_le_mul (Nat.pow_le_pow_left (Nat.mul_le_mul_left _ q16) _) (fct_le (by omega))
  refine ⟨?_, ?_⟩
  · refine Nat.le_trans (Nat.pow_le_pow_left b k) ?_
    rw [← Nat.pow_mul]
    exact Nat.pow_le_pow_right (Nat.mul_pos hH (by decide)) jk
  · refine Nat.le_trans (Nat.pow_le_pow_left (Nat.mul_le_mul_left _ b) k) ?_
    rw [← Nat.mul_pow, ← Nat.pow_mul]
    exact Nat.pow_le_pow_right (Nat.mul_pos (by omega) (Nat.mul_pos hH (by decide))) jk
/-- a row whose powers up to kk have small bottoms -/
def Rk (kk : Nat) (a : Nat → Rat) : Prop := ∃ D M, 0 < D ∧ (∀ k, k ≤ kk → D ^ k < 2 ^ 4400 ∧ (17 * M) ^ k < 2 ^ 20000) ∧ ∀ i, Iw D M (a i)
/-! from the top -/
def rv (d : Nat) (a : Nat → Rat) (i : Nat) : Rat := if i ≤ d then a (d - i) else 0
theorem rv_mul {da db : Nat} (za : ∀ i, da < i → co f i = 0) (zb : ∀ i, db < i → co g i = 0) (i : Nat) : rv (da + db) (co (mulP f g)) i = cv (rv da (co f)) (rv db (co g)) i := by
  unfold rv
  have L := conv_more (n := f.length) (m := f.length + (da + 1)) (a := co f) (b := co g) (by omega) (fun i hi => co_ge hi)
  have L2 := conv_more (n := da + 1) (m := f.length + (da + 1)) (a := co f) (b := co g) (by omega) (fun i hi => za i (by omega))
  have e : ∀ m, co (mulP f g) m = sumR (da + 1) fun l => if l ≤ m then co f l * co g (m - l) else 0 := fun m => by
    rw [co_mulP, ← L m, L2 m]; rfl
  by_cases hi : i ≤ da + db
  · rw [if_pos hi, e, sumR_rev]
    unfold cv
    have s1 : (sumR (da + 1 + (i + 1)) fun l => if l ≤ da ∧ l ≤ i then (if l ≤ da then co f (da - l) else 0) * (if i - l ≤ db then co g (db - (i - l)) else 0) else 0) = sumR (i + 1) fun l => (if l ≤ da then co f (da - l) else 0) * (if i - l ≤ db then co g (db - (i - l)) else 0) := by
      rw [sumR_more (n := i + 1) (by omega) fun l h1 h2 => by rw [if_neg (by omega)]]
      refine sumR_congr fun l hl => ?_
      by_cases h : l ≤ da
      · rw [if_pos ⟨h, by omega⟩]
      · rw [if_neg (fun z => h z.1), if_neg h, Rat.zero_mul]
    have s2 : (sumR (da + 1 + (i + 1)) fun l => if l ≤ da ∧ l ≤ i then (if l ≤ da then co f (da - l) else 0) * (if i - l ≤ db then co g (db - (i - l)) else 0) else 0) = sumR (da + 1) fun l => if da + 1 - 1 - l ≤ da + db - i then co f (da + 1 - 1 - l) * co g (da + db - i - (da + 1 - 1 - l)) else 0 := by
      rw [sumR_more (n := da + 1) (by omega) fun l h1 h2 => by rw [if_neg (by omega)]]
      refine sumR_congr fun l hl => ?_
      by_cases h : l ≤ i
      · rw [if_pos ⟨by omega, h⟩, if_pos (by omega)]
        by_cases h2 : i - l ≤ db
        · rw [if_pos h2, if_pos (by omega)]
          have : da + db - i - (da + 1 - 1 - l) = db - (i - l) := by omega
          rw [this]; rfl
        · rw [if_neg h2, if_neg (by omega), Rat.mul_zero]
      · rw [if_neg (fun z => h z.2)]
        split
        · rw [zb _ (by omega), Rat.mul_zero]
        · rfl
    rw [← s2, s1]
  · rw [if_neg hi]
    unfold cv
    rw [sumR_zero]
    intro l hl
    show (if l ≤ da then co f (da - l) else 0) * (if i - l ≤ db then co g (db - (i - l)) else 0) = 0
    by_cases h : l ≤ da
    · rw [if_neg (by omega : ¬ i - l ≤ db), Rat.mul_zero]
    · rw [if_neg h, Rat.zero_mul]
theorem mulP_zero {da db : Nat} (za : ∀ i, da < i → co f i = 0) (zb : ∀ i, db < i → co g i = 0) (i : Nat) (hi : da + db < i) : co (mulP f g) i = 0 := by
  rw [co_mulP]
  refine sumR_zero fun l _ => ?_
  split
  · by_cases h : l ≤ da
    · rw [zb _ (by omega), Rat.mul_zero]
    · rw [za _ (by omega), Rat.zero_mul]
  · rfl
/-- powers of a polynomial -/
def pP (h : List Rat) : Nat → List Rat
  | 0 => [1]
  | k + 1 => mulP (pP h k) h
theorem rv_pP {m : Nat} (z : ∀ i, m < i → co g i = 0) : ∀ k, (∀ i, m * k < i → co (pP g k) i = 0) ∧ ∀ i, rv (m * k) (co (pP g k)) i = pw (rv m (co g)) k i
  | 0 => by
    refine ⟨fun i hi => co_ge (by simp [pP]; omega), fun i => ?_⟩
    show rv (m * 0) (co [1]) i = one_ i
    unfold rv one_
    cases i with
    | zero => simp
    | succ i => simp
  | k + 1 => by
    obtain ⟨z1, z2⟩ := rv_pP z k
    have e : m * (k + 1) = m * k + m := Nat.mul_succ m k
    refine ⟨fun i hi => mulP_zero z1 z i (by omega), fun i => ?_⟩
    rw [e]
    show rv (m * k + m) (co (mulP (pP g k) g)) i = cv (pw (rv m (co g)) k) (rv m (co g)) i
    rw [rv_mul z1 z]
    exact cv_congr (fun j _ => z2 j) fun _ _ => rfl
/-! normal ones, falling numbers, candidates -/
def nrm (f : List Rat) : List Rat := mulC (1 / co f (f.length - 1)) (subP f (trim [co f 0]))
structure PL (n : Nat) (f : List Rat) : Prop where
  len : f.length = n + 1
  n0 : 0 < n
  nz : co f n ≠ 0
theorem PL.last (F : PL n f) : co f (f.length - 1) = co f n := by rw [F.len]; rfl
theorem co_b0 (i : Nat) : co (trim [co f 0]) i = if i = 0 then co f 0 else 0 := by
  rw [co_trim]
  cases i <;> simp
theorem co_nrm (F : PL n f) (i : Nat) : co (nrm f) i = if i = 0 then 0 else co f i / co f n := by
  rw [nrm, co_mulC, co_subP, co_b0, F.last]
  split
  · rename_i h; rw [h]; grind
  · rw [Rat.div_def, Rat.div_def]; grind
theorem nrm_top (F : PL n f) : co (nrm f) n = 1 := by
  rw [co_nrm F, if_neg (by have := F.n0; omega)]
  rw [Rat.div_def]; exact Rat.mul_inv_cancel _ F.nz
theorem len_nrm (F : PL n f) : (nrm f).length = n + 1 := by
  have h1 : (nrm f).length ≤ n + 1 := by
    refine Nat.le_trans (len_mulC _ _) (Nat.le_trans (len_addP _ _) ?_)
    have := len_mulC (-1) (trim [co f 0])
    have h2 := trim_len [co f 0]
    simp at h2
    rw [F.len]
    omega
  have h2 : ¬ (nrm f).length ≤ n := fun z => by
    have := co_ge z
    rw [nrm_top F] at this
    exact absurd this (by decide)
  omega
def fl (f : List Rat) : List Rat := (nrm f).reverse
theorem len_fl (F : PL n f) : (fl f).length = n + 1 := by rw [fl, List.length_reverse, len_nrm F]
theorem co_fl (F : PL n f) (i : Nat) : co (fl f) i = rv n (co (nrm f)) i := by
  unfold rv
  split
  · rename_i h
    have := len_nrm F
    simp only [co, fl, List.getD]
    rw [List.getElem?_reverse (by omega), this]
    congr 2
    all_goals omega
  · exact co_ge (by rw [len_fl F]; omega)
theorem fl_zero (F : PL n f) : co (fl f) 0 = 1 := by
  rw [co_fl F, rv, if_pos (Nat.zero_le _), Nat.sub_zero, nrm_top F]
/-- a normal one of degree m -/
structure Nm (m : Nat) (g : List Rat) : Prop where
  len : g.length = m + 1
  one : co g m = 1
  zero : co g 0 = 0
theorem Nm.top (G : Nm m g) : ∀ i, m < i → co g i = 0 := fun i hi => co_ge (by rw [G.len]; omega)
theorem Nm.tr (G : Nm m g) : Tr g := fun z => by
  rw [List.getLast?_eq_getElem?, co_lt (by rw [G.len]; omega), G.len] at z
  have e := Option.some.inj z
  have o := G.one
  rw [show m + 1 - 1 = m from rfl] at e
  rw [e] at o
  exact absurd o (by decide)
theorem Nm.ext {g' : List Rat} (G : Nm m g) (G' : Nm m g') (h : ∀ i, i < m → rv m (co g) i = rv m (co g') i) : g = g' := list_ext (by rw [G.len, G'.len]) fun i => by
  by_cases h0 : i = 0
  · rw [h0, G.zero, G'.zero]
  · by_cases hm : i ≤ m
    · have := h (m - i) (by omega)
      unfold rv at this
      rw [if_pos (by omega), if_pos (by omega)] at this
      have e : m - (m - i) = i := by omega
      rwa [e] at this
    · rw [G.top i (by omega), G'.top i (by omega)]
theorem Nm.m0 (G : Nm m g) : 0 < m := by
  cases m with
  | zero =>
    have o := G.one
    rw [G.zero] at o
    exact absurd o (by decide)
  | succ m => omega
def cand (f : List Rat) (m q : Nat) : List Rat := 0 :: (rootL (co (fl f)) q (m - 1)).reverse
theorem cand_rv (hm : 0 < m) {i : Nat} (hi : i < m) : rv m (co (cand f m q)) i = root (co (fl f)) q i := by
  unfold rv
  rw [if_pos (by omega)]
  obtain ⟨j, hj⟩ : ∃ j, m - i = j + 1 := ⟨m - i - 1, by omega⟩
  rw [hj, cand, co_succ]
  have hl := rootL_len (co (fl f)) q (m - 1)
  simp only [co, List.getD]
  rw [List.getElem?_reverse (by omega), hl]
  have e : m - 1 + 1 - 1 - j = i := by omega
  rw [e]
  show co (rootL (co (fl f)) q (m - 1)) i = _
  exact rootL_co _ _ (by omega)
theorem cand_nm (hm : 0 < m) : Nm m (cand f m q) := by
  refine ⟨by simp [cand, rootL_len]; omega, ?_, rfl⟩
  have := cand_rv (f := f) (q := q) hm (i := 0) hm
  unfold rv at this
  rw [if_pos (Nat.zero_le _), Nat.sub_zero, root_zero] at this
  exact this
def restP (f g : List Rat) (q : Nat) : List Rat := subP (nrm f) (pP g q)
theorem restP_tr : Tr (restP f g q) := trim_tr _
theorem co_restP (F : PL n f) (G : Nm m g) (e : m * q = n) {i : Nat} (hi : i ≤ n) : co (restP f g q) (n - i) = co (fl f) i - pw (rv m (co g)) q i := by
  obtain ⟨_, z⟩ := rv_pP G.top q
  have := z i
  rw [e] at this
  unfold rv at this
  rw [if_pos hi] at this
  rw [restP, co_subP, co_fl F]
  unfold rv
  rw [if_pos hi, this]
/-- low rests: just the candidate's -/
theorem low_iff (F : PL n f) (G : Nm m g) (e : m * q = n) : (restP f g q).length ≤ n - m + 1 ↔ g = cand f m q := by
  have m0 := G.m0
  have q0 : 0 < q := by
    cases q with
    | zero => have := F.n0; simp at e; omega
    | succ q => omega
  have mn : m ≤ n := by rw [← e]; exact Nat.le_mul_of_pos_right _ q0
  have a0 : rv m (co g) 0 = 1 := by unfold rv; rw [if_pos (Nat.zero_le _), Nat.sub_zero, G.one]
  obtain ⟨zt, _⟩ := rv_pP G.top q
  rw [e] at zt
  constructor
  · intro h
    have pwe : ∀ i, i < m → pw (rv m (co g)) q i = co (fl f) i := fun i hi => by
      have := co_restP F G e (i := i) (by omega)
      rw [co_ge (by omega)] at this
      grind
    have u := root_unique q0 a0 (fl_zero F) pwe
    exact G.ext (cand_nm m0) fun i hi => by rw [u i hi, cand_rv m0 hi]
  · intro h
    refine tr_len restP_tr fun i hi => ?_
    by_cases hn : i ≤ n
    · have := co_restP F G e (i := n - i) (by omega)
      have e2 : n - (n - i) = i := by omega
      rw [e2] at this
      rw [this, pw_congr (b := root (co (fl f)) q) (m := n - i) q (fun j hj => by rw [h, cand_rv m0 (by omega)]) _ (Nat.le_refl _), root_pw q0 (fl_zero F)]
      exact Rat.sub_self
    · rw [restP, co_subP, zt i (by omega), co_ge (f := nrm f) (by rw [len_nrm F]; omega)]
      grind
theorem cand_low (F : PL n f) (m0 : 0 < m) (e : m * q = n) : (restP f (cand f m q) q).length ≤ n - m + 1 := (low_iff F (cand_nm m0) e).mpr rfl
/-- the first falling numbers tell the candidate -/
theorem like_iff (F : PL n f) (P : PL n p) (m0 : 0 < m) (q0 : 0 < q) : (∀ i, i < m → co (fl f) i = co (fl p) i) ↔ cand f m q = cand p m q := by
  constructor
  · intro h
    have u := root_unique (a := root (co (fl p)) q) (h := co (fl f)) (t := m) q0 (root_zero _ _) (fl_zero F) fun i hi => by rw [root_pw q0 (fl_zero P), h i hi]
    exact (cand_nm m0).ext (cand_nm m0) fun i hi => by rw [cand_rv m0 hi, cand_rv m0 hi, u i hi]
  · intro h i hi
    rw [← root_pw q0 (fl_zero F) i, ← root_pw q0 (fl_zero P) i]
    refine pw_congr (m := i) q (fun j hj => ?_) i (Nat.le_refl _)
    rw [← cand_rv m0 (by omega), ← cand_rv m0 (by omega), h]
end
end DE

set_option Elab.async false
set_option linter.all false
set_option maxRecDepth 100000
set_option maxHeartbeats 4000000
set_option autoImplicit false
/-! Series: integer powers, a series' numbers in another. -/
namespace DE
section
variable {a b c h r o o' s s' : Nat → Rat} {p p' x y : Int}
/-! 1 by a series -/
def ivL (a : Nat → Rat) : Nat → List Rat
  | 0 => [1]
  | j + 1 => ivL a j ++ [-(sumR (j + 1) fun i => a (i + 1) * co (ivL a j) (j - i))]
theorem ivL_len (a : Nat → Rat) : ∀ j, (ivL a j).length = j + 1
  | 0 => rfl
  | j + 1 => by simp [ivL, ivL_len a j]
def iv (a : Nat → Rat) (j : Nat) : Rat := co (ivL a j) j
theorem ivL_co (a : Nat → Rat) : ∀ {j i : Nat}, i ≤ j → co (ivL a j) i = iv a i := by
  intro j
  induction j with
  | zero => intro i hi; have : i = 0 := by omega
            subst this; rfl
  | succ j ih =>
    intro i hi
    by_cases e : i = j + 1
    · subst e; rfl
    · rw [ivL, co_append_l (by rw [ivL_len]; omega), ih (by omega)]
theorem iv_zero (a : Nat → Rat) : iv a 0 = 1 := rfl
theorem iv_succ (a : Nat → Rat) (j : Nat) : iv a (j + 1) = -(sumR (j + 1) fun i => a (i + 1) * iv a (j - i)) := by
  have e : iv a (j + 1) = -(sumR (j + 1) fun i => a (i + 1) * co (ivL a j) (j - i)) := by
    show co (ivL a j ++ [_]) (j + 1) = _
    have := co_append_last (f := ivL a j) (x := -(sumR (j + 1) fun i => a (i + 1) * co (ivL a j) (j - i)))
    rw [ivL_len] at this
    exact this
  rw [e]
  congr 1
  exact sumR_congr fun i hi => by rw [ivL_co a (by omega)]
theorem iv_eq (a : Nat → Rat) (j : Nat) : ivL a j = (List.range (j + 1)).map (iv a) := list_ext (by rw [ivL_len]; simp) fun i => by
  rw [co_map]
  split
  · rw [ivL_co a (by omega)]
  · rw [co_ge (by rw [ivL_len]; omega)]
theorem cv_iv (h0 : a 0 = 1) : ∀ m, cv a (iv a) m = one_ m
  | 0 => by simp [cv, sumR, h0, iv_zero, one_]; grind
  | m + 1 => by
    unfold cv
    rw [sumR_front, h0, Nat.sub_zero, iv_succ]
    rw [sumR_congr (F := fun i => a (i + 1) * iv a (m + 1 - (i + 1))) (G := fun i => a (i + 1) * iv a (m - i)) fun i _ => by
      have : m + 1 - (i + 1) = m - i := by omega
      rw [this]]
    simp [one_]
    grind
theorem cv_ext {a' b' : Nat → Rat} (ha : ∀ i, a i = a' i) (hb : ∀ i, b i = b' i) (m : Nat) : cv a b m = cv a' b' m := cv_congr (fun i _ => ha i) fun i _ => hb i
theorem cvf (ha : ∀ i, a i = b i) : a = b := funext ha
theorem cv_assoc' : cv (cv a b) c = cv a (cv b c) := funext cv_assoc
theorem cv_comm' : cv a b = cv b a := funext cv_comm
theorem cv_one' : cv one_ a = a := funext cv_one
theorem cv_iv' (h0 : a 0 = 1) : cv a (iv a) = one_ := funext (cv_iv h0)
/-! integer powers -/
def zp (a : Nat → Rat) (z : Int) : Nat → Rat := if 0 ≤ z then pw a z.toNat else pw (iv a) z.natAbs
theorem zp_nat (a : Nat → Rat) (k : Nat) : zp a (k : Int) = pw a k := by
  unfold zp
  rw [if_pos (by omega)]; rfl
theorem zp_neg (a : Nat → Rat) (k : Nat) : zp a (-((k + 1 : Nat) : Int)) = pw (iv a) (k + 1) := by
  unfold zp
  rw [if_neg (by omega)]
  have : (-((k + 1 : Nat) : Int)).natAbs = k + 1 := by omega
  rw [this]
theorem zp_one (a : Nat → Rat) : zp a 1 = a := by
  have := zp_nat a 1
  rw [show ((1 : Nat) : Int) = 1 from rfl] at this
  rw [this]; exact funext pw_one
theorem zp_0 (a : Nat → Rat) : zp a 0 = one_ := zp_nat a 0
theorem zp_step (h0 : a 0 = 1) (z : Int) : cv (zp a z) a = zp a (z + 1) := by
  by_cases hz : 0 ≤ z
  · obtain ⟨k, rfl⟩ : ∃ k : Nat, z = k := ⟨z.toNat, by omega⟩
    rw [zp_nat, show (k : Int) + 1 = ((k + 1 : Nat) : Int) by omega, zp_nat]; rfl
  · obtain ⟨k, rfl⟩ : ∃ k : Nat, z = -((k + 1 : Nat) : Int) := ⟨(-z).toNat - 1, by omega⟩
    rw [zp_neg]
    show cv (cv (pw (iv a) k) (iv a)) a = _
    have e1 : cv (iv a) a = one_ := by rw [cv_comm', cv_iv' h0]
    rw [cv_assoc', e1, cv_comm', cv_one']
    cases k with
    | zero => rw [show (-((0 + 1 : Nat) : Int) + 1) = 0 by omega, zp_0]; rfl
    | succ k =>
      rw [show (-((k + 1 + 1 : Nat) : Int) + 1) = -((k + 1 : Nat) : Int) by omega, zp_neg]
theorem zp_back (h0 : a 0 = 1) (z : Int) : cv (zp a z) (iv a) = zp a (z - 1) := by
  have := zp_step h0 (z - 1)
  rw [show z - 1 + 1 = z by omega] at this
  rw [← this, cv_assoc', cv_iv' h0, cv_comm', cv_one']
theorem zp_add (h0 : a 0 = 1) (x y : Int) : cv (zp a x) (zp a y) = zp a (x + y) := by
  have up : ∀ k : Nat, cv (zp a x) (zp a (k : Int)) = zp a (x + k) := fun k => by
    induction k with
    | zero => rw [show ((0 : Nat) : Int) = 0 from rfl, zp_0, cv_comm', cv_one', Int.add_zero]
    | succ k ih =>
      have := zp_step h0 (k : Int)
      rw [show (k : Int) + 1 = ((k + 1 : Nat) : Int) by omega] at this
      rw [← this, ← cv_assoc', ih, zp_step h0]
      congr 1
      omega
  have dn : ∀ k : Nat, cv (zp a x) (zp a (-(k : Int))) = zp a (x - k) := fun k => by
    induction k with
    | zero => rw [show (-((0 : Nat) : Int)) = 0 from rfl, zp_0, cv_comm', cv_one']; simp
    | succ k ih =>
      have := zp_back h0 (-(k : Int))
      rw [show -(k : Int) - 1 = -((k + 1 : Nat) : Int) by omega] at this
      rw [← this, ← cv_assoc', ih, zp_back h0]
      congr 1
      omega
  by_cases hy : 0 ≤ y
  · obtain ⟨k, rfl⟩ : ∃ k : Nat, y = k := ⟨y.toNat, by omega⟩
    exact up k
  · obtain ⟨k, rfl⟩ : ∃ k : Nat, y = -(k : Int) := ⟨(-y).toNat, by omega⟩
    exact dn k
theorem zp_zero (h0 : a 0 = 1) (z : Int) : zp a z 0 = 1 := by
  unfold zp
  split
  · exact pw_zero h0 _
  · exact pw_zero (iv_zero a) _
/-! places times numbers -/
theorem th_one (m : Nat) : th one_ m = 0 := by
  unfold th one_
  split
  · rename_i h; rw [h, show ((0 : Nat) : Rat) = 0 from rfl]; grind
  · grind
theorem cv_scaler {x : Rat} (m : Nat) : cv a (fun i => x * b i) m = x * cv a b m := by
  rw [cv_comm, cv_scale, cv_comm]
theorem cv_add (m : Nat) : cv (fun i => a i + b i) c m = cv a c m + cv b c m := by
  unfold cv
  rw [← sumR_add]
  exact sumR_congr fun i _ => by grind
theorem th_zp (h0 : a 0 = 1) (z : Int) (m : Nat) : th (zp a z) m = (z : Rat) * cv (zp a (z - 1)) (th a) m := by
  by_cases hz : 0 ≤ z
  · obtain ⟨k, rfl⟩ : ∃ k : Nat, z = k := ⟨z.toNat, by omega⟩
    cases k with
    | zero =>
      rw [zp_nat]
      show th one_ m = _
      rw [th_one, show (((0 : Nat) : Int) : Rat) = 0 from rfl]; grind
    | succ k =>
      rw [zp_nat, th_pw, show ((k + 1 : Nat) : Int) - 1 = (k : Int) by omega, zp_nat]
      rfl
  · obtain ⟨k, rfl⟩ : ∃ k : Nat, z = -((k + 1 : Nat) : Int) := ⟨(-z).toNat - 1, by omega⟩
    -- th (iv a) = - iv² th a
    have t1 : ∀ m, th (iv a) m = -cv (zp a (-2)) (th a) m := fun m => by
      have e := fun m => th_cv (a := a) (b := iv a) m
      have e2 : ∀ m, cv a (th (iv a)) m = -cv (th a) (iv a) m := fun m => by
        have := e m
        rw [cvf (cv_iv h0), th_one] at this
        grind
      have e3 : cv (iv a) (cv a (th (iv a))) m = th (iv a) m := by
        rw [← cv_assoc', cv_comm' (a := iv a) (b := a), cv_iv' h0, cv_one']
      rw [← e3]
      have e4 : cv a (th (iv a)) = fun i => (-1 : Rat) * cv (th a) (iv a) i := funext fun i => by rw [e2]; grind
      rw [e4, cv_scaler]
      have e5 : cv (iv a) (cv (th a) (iv a)) = cv (zp a (-2)) (th a) := by
        have z1 := zp_back h0 0
        have z2 := zp_back h0 (-1)
        rw [zp_0, cv_one'] at z1
        rw [show (0 : Int) - 1 = -1 from rfl] at z1
        rw [← z1] at z2
        rw [show (-1 : Int) - 1 = -2 from rfl] at z2
        rw [← z2, cv_comm' (a := th a), ← cv_assoc']
      rw [e5]; grind
    rw [zp_neg, th_pw]
    have e6 : th (iv a) = fun i => (-1 : Rat) * cv (zp a (-2)) (th a) i := funext fun i => by rw [t1]; grind
    rw [e6, cv_scaler, ← cv_assoc]
    have e7 : pw (iv a) k = zp a (-(k : Int)) := by
      cases k with
      | zero => rw [show (-((0 : Nat) : Int)) = 0 from rfl, zp_0]; rfl
      | succ k => rw [zp_neg]
    rw [e7, zp_add h0, show (-(k : Int) + -2) = -((k + 1 : Nat) : Int) - 1 by omega]
    have : ((-((k + 1 : Nat) : Int) : Int) : Rat) = -((k + 1 : Nat) : Rat) := by rw [Rat.intCast_neg]; rfl
    rw [this]
    grind
/-- what a power's numbers come from, each from those ahead -/
theorem zp_rec {n : Nat} (h0 : r 0 = 1) (q : Int) (j : Nat) (hh : ∀ i, i ≤ j + 1 → pw r n i = h i) :
    ((j + 1 : Nat) : Rat) * n * zp r q (j + 1) = sumR (j + 1) fun i => (((i + 1 : Nat) : Rat) * ((q : Rat) + n) - ((j + 1 : Nat) : Rat) * n) * (h (i + 1) * zp r q (j - i)) := by
  have hp0 : h 0 = 1 := by rw [← hh 0 (by omega)]; exact pw_zero h0 _
  -- n h b' = q h' b
  have e : (n : Rat) * cv h (th (zp r q)) (j + 1) = (q : Rat) * cv (th h) (zp r q) (j + 1) := by
    have t1 : cv h (th (zp r q)) (j + 1) = (q : Rat) * cv (zp r (q - 1 + n)) (th r) (j + 1) := by
      rw [cv_congr (a := h) (a' := zp r (n : Int)) (b := th (zp r q)) (b' := fun i => (q : Rat) * cv (zp r (q - 1)) (th r) i) (fun i hi => by rw [zp_nat, hh i hi]) fun i _ => th_zp h0 q i, cv_scaler, ← cv_assoc, zp_add h0, Int.add_comm]
    have t2 : cv (th h) (zp r q) (j + 1) = (n : Rat) * cv (zp r (q - 1 + n)) (th r) (j + 1) := by
      rw [cv_congr (a := th h) (a' := fun i => ((n : Int) : Rat) * cv (zp r ((n : Int) - 1)) (th r) i) (b := zp r q) (b' := zp r q) (fun i hi => by
        rw [← th_zp h0, zp_nat]; unfold th; rw [hh i hi]) fun _ _ => rfl, cv_scale, cv_right, zp_add h0]
      rw [show (n : Int) - 1 + q = q - 1 + n by omega]
      rfl
    rw [t1, t2]; grind
  unfold cv at e
  rw [sumR_front (F := fun i => th h i * zp r q (j + 1 - i)), sumR_front (F := fun i => h i * th (zp r q) (j + 1 - i))] at e
  have z : th h 0 = 0 := by unfold th; rw [show ((0 : Nat) : Rat) = 0 from rfl]; grind
  rw [z, hp0, Nat.sub_zero] at e
  have t1 : th (zp r q) (j + 1) = ((j + 1 : Nat) : Rat) * zp r q (j + 1) := rfl
  rw [t1] at e
  have e2 : (sumR (j + 1) fun i => (((i + 1 : Nat) : Rat) * ((q : Rat) + (n : Rat)) - ((j + 1 : Nat) : Rat) * (n : Rat)) * (h (i + 1) * zp r q (j - i))) = sumR (j + 1) (fun i => (q : Rat) * (th h (i + 1) * zp r q (j + 1 - (i + 1)))) + sumR (j + 1) (fun i => (-(n : Rat)) * (h (i + 1) * th (zp r q) (j + 1 - (i + 1)))) := by
    rw [← sumR_add]
    refine sumR_congr fun i hi => ?_
    have s : j + 1 - (i + 1) = j - i := by omega
    have c : ((j + 1 : Nat) : Rat) = ((i + 1 : Nat) : Rat) + ((j - i : Nat) : Rat) := by rw [← Rat.natCast_add]; congr 1; omega
    rw [s, c]
    unfold th
    grind
  rw [e2, sumR_mul, sumR_mul]
  grind
/-! a series' numbers in another -/
/-- the l-th part of what numbers make -/
def tl (r : Nat → Rat) (p : Int) (l : Nat) (m : Nat) : Rat := if l ≤ m then zp r (p - l) (m - l) else 0
/-- what numbers make -/
def mk (r : Nat → Rat) (p : Int) (s : Nat → Rat) (m : Nat) : Rat := sumR (m + 1) fun l => s l * zp r (p - l) (m - l)
theorem mk_more (m N : Nat) (hN : m < N) : mk r p s m = sumR N fun l => s l * tl r p l m := by
  rw [sumR_more (n := m + 1) (by omega) fun i hi _ => by
    unfold tl
    rw [if_neg (by omega)]; grind]
  exact sumR_congr fun l hl => by
    unfold tl
    rw [if_pos (by omega)]
theorem mk_congr {t : Nat} (h : ∀ i, i < t → s i = s' i) {m : Nat} (hm : m < t) : mk r p s m = mk r p s' m := sumR_congr fun i hi => by rw [h i (by omega)]
theorem mk_unique (h0 : r 0 = 1) {t : Nat} (h : ∀ i, i < t → mk r p s i = mk r p s' i) : ∀ i, i < t → s i = s' i := by
  intro i
  induction i using Nat.strongRecOn with
  | _ i ih =>
    intro hi
    have e := h i hi
    unfold mk at e
    rw [sumR, sumR, sumR_congr (G := fun l => s' l * zp r (p - l) (i - l)) fun l hl => by rw [ih l hl (by omega)], Nat.sub_self, zp_zero h0] at e
    grind
theorem mk_add (m : Nat) : mk r p (fun i => s i + s' i) m = mk r p s m + mk r p s' m := by
  unfold mk
  rw [← sumR_add]
  exact sumR_congr fun i _ => by grind
theorem tl_mul (h0 : r 0 = 1) (l l' m : Nat) : cv (tl r p l) (tl r p' l') m = tl r (p + p') (l + l') m := by
  have key := zp_add h0 (p - l) (p' - l')
  unfold cv
  by_cases hm : l + l' ≤ m
  · have e1 : tl r (p + p') (l + l') m = cv (zp r (p - l)) (zp r (p' - l')) (m - (l + l')) := by
      unfold tl
      rw [if_pos hm, key]
      congr 1
      omega
    rw [e1]
    have split : ∀ N, sumR (l + N) (fun i => tl r p l i * tl r p' l' (m - i)) = sumR N fun i => zp r (p - l) i * tl r p' l' (m - (l + i)) := fun N => by
      induction N with
      | zero =>
        rw [Nat.add_zero]
        exact sumR_zero fun i hi => by
          unfold tl
          rw [if_neg (by omega)]; grind
      | succ N ih =>
        rw [← Nat.add_assoc, sumR, ih, sumR]
        congr 2
        unfold tl
        rw [if_pos (by omega)]
        congr 1
        omega
    have en : m + 1 = l + (m + 1 - l) := by omega
    rw [en, split, sumR_more (n := m - (l + l') + 1) (by omega) fun i hi _ => by
      unfold tl
      rw [if_neg (by omega)]; grind]
    exact sumR_congr fun i hi => by
      unfold tl
      rw [if_pos (by omega)]
      congr 2
      omega
  · have e1 : tl r (p + p') (l + l') m = 0 := by unfold tl; rw [if_neg hm]
    rw [e1]
    exact sumR_zero fun i hi => by
      unfold tl
      by_cases h1 : l ≤ i
      · rw [if_neg (c := l' ≤ m - i) (by omega)]; grind
      · rw [if_neg (c := l ≤ i) h1]; grind
theorem sumR_swap {N M : Nat} {F : Nat → Nat → Rat} : sumR N (fun i => sumR M fun j => F i j) = sumR M fun j => sumR N fun i => F i j := by
  induction N with
  | zero => simp only [sumR]; exact (sumR_zero fun _ _ => rfl).symm
  | succ N ih => simp only [sumR]; rw [ih, ← sumR_add]
theorem cv_sum {N : Nat} {F : Nat → Nat → Rat} {x : Nat → Rat} (m : Nat) : cv (fun i => sumR N fun l => x l * F l i) b m = sumR N fun l => x l * cv (F l) b m := by
  unfold cv
  rw [sumR_congr (G := fun i => sumR N fun l => x l * (F l i * b (m - i))) fun i _ => by
    rw [← sumR_mulr]
    exact sumR_congr fun l _ => by grind]
  rw [sumR_swap]
  exact sumR_congr fun l _ => by rw [sumR_mul]
theorem mk_mul (h0 : r 0 = 1) (m : Nat) : cv (mk r p s) (mk r p' s') m = mk r (p + p') (cv s s') m := by
  have e1 : cv (mk r p s) (mk r p' s') m = cv (fun i => sumR (m + 1) fun l => s l * tl r p l i) (fun i => sumR (m + 1) fun l => s' l * tl r p' l i) m := cv_congr (fun i hi => mk_more i (m + 1) (by omega)) fun i hi => mk_more i (m + 1) (by omega)
  rw [e1, cv_sum]
  rw [sumR_congr (G := fun l => sumR (m + 1) fun l' => s l * (s' l' * tl r (p + p') (l + l') m)) fun l _ => by
    rw [cv_comm, cv_sum, ← sumR_mul]
    exact sumR_congr fun l' _ => by rw [cv_comm, tl_mul h0]]
  rw [mk_more m (m + 1) (by omega)]
  rw [sumR_congr (F := fun l => cv s s' l * tl r (p + p') l m) (G := fun i => sumR (i + 1) fun j => (fun j l => s j * (s' l * tl r (p + p') (j + l) m)) j (i - j)) fun i hi => by
    unfold cv
    rw [← sumR_mulr]
    exact sumR_congr fun j hj => by
      show s j * s' (i - j) * tl r (p + p') i m = s j * (s' (i - j) * tl r (p + p') (j + (i - j)) m)
      have : j + (i - j) = i := by omega
      rw [this]; grind]
  rw [tri (G := fun j l => s j * (s' l * tl r (p + p') (j + l) m)) (m + 1)]
  exact sumR_congr fun l hl => by
    show (sumR (m + 1) fun l' => s l * (s' l' * tl r (p + p') (l + l') m)) = sumR (m + 1 - l) fun l' => s l * (s' l' * tl r (p + p') (l + l') m)
    exact sumR_more (by omega) fun i hi _ => by
      unfold tl
      rw [if_neg (by omega)]; grind
/-- numbers later -/
def sh (d : Nat) (s : Nat → Rat) (i : Nat) : Rat := if d ≤ i then s (i - d) else 0
theorem mk_sh (d m : Nat) : mk r p (sh d s) m = sh d (mk r (p - d) s) m := by
  have split : ∀ N, sumR (d + N) (fun l => sh d s l * tl r p l m) = sumR N fun l => s l * tl r p (d + l) m := fun N => by
    induction N with
    | zero =>
      rw [Nat.add_zero]
      exact sumR_zero fun i hi => by
        unfold sh
        rw [if_neg (by omega)]; grind
    | succ N ih =>
      rw [← Nat.add_assoc, sumR, ih, sumR]
      congr 2
      unfold sh
      rw [if_pos (by omega)]
      congr 1
      omega
  rw [mk_more m (d + (m + 1)) (by omega), split]
  unfold sh
  split
  · rename_i hd
    rw [mk_more (m - d) (m + 1) (by omega)]
    refine sumR_congr fun l hl => ?_
    unfold tl
    by_cases h1 : l ≤ m - d
    · rw [if_pos h1, if_pos (by omega)]
      have e1 : p - ((d + l : Nat) : Int) = p - d - l := by omega
      have e2 : m - (d + l) = m - d - l := by omega
      rw [e1, e2]
    · rw [if_neg h1, if_neg (by omega)]
  · exact sumR_zero fun l hl => by
      unfold tl
      rw [if_neg (by omega)]; grind
theorem mk_one (m : Nat) : mk r p one_ m = zp r p m := by
  unfold mk
  rw [sumR_one (k := 0) (by omega) fun i _ hi => by simp [one_, hi]]
  simp [one_]
/-! the numbers, taken off one by one -/
/-- what is left behind j of them -/
def lf (r : Nat → Rat) (p : Int) (s o : Nat → Rat) (j i : Nat) : Rat := o i - sumR j fun l => s l * tl r p l i
theorem lf_zero (i : Nat) : lf r p s o 0 i = o i := by simp [lf, sumR, Rat.sub_eq_add_neg]; grind
theorem lf_succ (j i : Nat) : lf r p s o (j + 1) i = lf r p s o j i - s j * tl r p j i := by
  unfold lf
  rw [sumR]
  grind
/-- the numbers -/
def slL (r : Nat → Rat) (p : Int) (o : Nat → Rat) : Nat → List Rat
  | 0 => []
  | j + 1 => slL r p o j ++ [lf r p (co (slL r p o j)) o j j]
theorem slL_len : ∀ j, (slL r p o j).length = j
  | 0 => rfl
  | j + 1 => by simp [slL, slL_len j]
def sl (r : Nat → Rat) (p : Int) (o : Nat → Rat) (j : Nat) : Rat := co (slL r p o (j + 1)) j
theorem slL_co : ∀ {j i : Nat}, i < j → co (slL r p o j) i = sl r p o i := by
  intro j
  induction j with
  | zero => intro i hi; omega
  | succ j ih =>
    intro i hi
    by_cases e : i = j
    · subst e; rfl
    · rw [slL, co_append_l (by rw [slL_len]; omega), ih (by omega)]
theorem sl_eq (j : Nat) : slL r p o j = (List.range j).map (sl r p o) := list_ext (by rw [slL_len]; simp) fun i => by
  rw [co_map]
  split
  · rw [slL_co (by omega)]
  · rw [co_ge (by rw [slL_len]; omega)]
theorem sl_lf (j : Nat) : sl r p o j = lf r p (sl r p o) o j j := by
  have e : sl r p o j = lf r p (co (slL r p o j)) o j j := by
    show co (slL r p o j ++ [_]) j = _
    have := co_append_last (f := slL r p o j) (x := lf r p (co (slL r p o j)) o j j)
    rw [slL_len] at this
    exact this
  rw [e]
  unfold lf
  congr 1
  exact sumR_congr fun l hl => by rw [slL_co hl]
/-- they make it -/
theorem mk_sl (h0 : r 0 = 1) (m : Nat) : mk r p (sl r p o) m = o m := by
  unfold mk
  rw [sumR, Nat.sub_self, zp_zero h0, sl_lf m, lf]
  rw [sumR_congr (F := fun l => sl r p o l * zp r (p - l) (m - l)) (G := fun l => sl r p o l * tl r p l m) fun l hl => by
    unfold tl
    rw [if_pos (by omega)]]
  grind
theorem sl_of (h0 : r 0 = 1) {t : Nat} (h : ∀ i, i < t → mk r p s i = o i) : ∀ i, i < t → sl r p o i = s i := mk_unique h0 fun i hi => by rw [mk_sl h0, h i hi]
theorem sl_congr {o' : Nat → Rat} (h0 : r 0 = 1) {t : Nat} (h : ∀ i, i < t → o i = o' i) : ∀ i, i < t → sl r p o i = sl r p o' i := mk_unique h0 fun i hi => by rw [mk_sl h0, mk_sl h0, h i hi]
theorem sl_add (h0 : r 0 = 1) (i : Nat) : sl r p (fun i => o i + o' i) i = sl r p o i + sl r p o' i :=
  sl_of (t := i + 1) h0 (s := fun i => sl r p o i + sl r p o' i) (fun i _ => by rw [mk_add, mk_sl h0, mk_sl h0]) i (by omega)
theorem sl_mul (h0 : r 0 = 1) (i : Nat) : sl r (p + p') (cv o o') i = cv (sl r p o) (sl r p' o') i :=
  sl_of (t := i + 1) h0 (s := cv (sl r p o) (sl r p' o')) (fun i _ => by
    rw [← mk_mul h0]
    exact cv_ext (fun i => mk_sl h0 i) (fun i => mk_sl h0 i) i) i (by omega)
theorem sl_sh (h0 : r 0 = 1) (d i : Nat) : sl r p (sh d o) i = sh d (sl r (p - d) o) i :=
  sl_of (t := i + 1) h0 (s := sh d (sl r (p - d) o)) (fun i _ => by
    rw [mk_sh]
    unfold sh
    split
    · rw [mk_sl h0]
    · rfl) i (by omega)
theorem sl_zp (h0 : r 0 = 1) (i : Nat) : sl r p (zp r p) i = one_ i :=
  sl_of (t := i + 1) h0 (s := one_) (fun i _ => mk_one i) i (by omega)
end
end DE

set_option Elab.async false
set_option linter.all false
set_option maxRecDepth 100000
set_option maxHeartbeats 4000000
set_option exponentiation.threshold 200000
set_option autoImplicit false
/-! Sizes of series whose bottoms grow step by step. -/
namespace DE
section
variable {x y : Rat} {D E M N n m : Nat} {a a' h r o s : Nat → Rat} {b c c' μ μ' K L : Nat} {p : Int}
def ch : Nat → Nat → Nat
  | 0, _ => 1
  | _ + 1, 0 => 1
  | i + 1, j + 1 => ch i (j + 1) + ch (i + 1) j
theorem ch_zero (i : Nat) : ch i 0 = 1 := by cases i <;> simp [ch]
theorem ch_fct : ∀ i j, fct (i + j) = ch i j * (fct i * fct j)
  | 0, j => by simp [ch, fct]
  | i + 1, 0 => by simp [ch, fct]
  | i + 1, j + 1 => by
    have h1 := ch_fct i (j + 1)
    have h2 := ch_fct (i + 1) j
    have e1 : i + 1 + (j + 1) = (i + (j + 1)) + 1 := by omega
    have e2 : i + 1 + j = i + (j + 1) := by omega
    rw [e2] at h2
    rw [e1, fct]
    have e3 : i + (j + 1) + 1 = (i + 1) + (j + 1) := by omega
    rw [e3, Nat.add_mul]
    have g1 : (i + 1) * fct (i + (j + 1)) = ch i (j + 1) * (fct (i + 1) * fct (j + 1)) := by
      rw [h1, fct, fct]
      simp only [Nat.mul_assoc, Nat.mul_comm, Nat.mul_left_comm]
    have g2 : (j + 1) * fct (i + (j + 1)) = ch (i + 1) j * (fct (i + 1) * fct (j + 1)) := by
      rw [h2, fct, fct]
      simp only [Nat.mul_assoc, Nat.mul_comm, Nat.mul_left_comm]
    rw [g1, g2, ← Nat.add_mul]
    congr 1
    rw [ch]
theorem ch_le : ∀ i j, ch i j ≤ 2 ^ (i + j)
  | 0, j => by rw [ch]; exact Nat.one_le_two_pow
  | i + 1, 0 => by simp [ch]; exact Nat.one_le_two_pow
  | i + 1, j + 1 => by
    have h1 := ch_le i (j + 1)
    have h2 := ch_le (i + 1) j
    have e1 : i + 1 + (j + 1) = (i + (j + 1)) + 1 := by omega
    have e2 : i + 1 + j = i + (j + 1) := by omega
    rw [e2] at h2
    rw [e1, Nat.pow_succ]
    rw [ch]
    omega
def Bf (b i : Nat) : Nat := b ^ i * fct i
theorem Bf_pos (hb : 0 < b) (i : Nat) : 0 < Bf b i := Nat.mul_pos (Nat.pow_pos hb) (fct_pos i)
theorem Bf_add (b i j : Nat) : Bf b (i + j) = Bf b i * Bf b j * ch i j := by
  unfold Bf
  rw [ch_fct, Nat.pow_add]
  simp only [Nat.mul_assoc, Nat.mul_comm, Nat.mul_left_comm]
theorem Bf_le (hi : m ≤ 16) : Bf b m ≤ (16 * b) ^ m := by
  unfold Bf
  rw [Nat.mul_pow, Nat.mul_comm]
  exact Nat.mul_le_mul_right _ (fct_le hi)
/-- a product of two, by their places -/
theorem iw_mul_at {i j : Nat} (hx : Iw (c * Bf b i) M x) (hy : Iw (c' * Bf b j) N y) : Iw (c * c' * Bf b (i + j)) (2 ^ (i + j) * (M * N)) (x * y) := by
  have h := (hx.mul hy).scale (ch i j)
  have e : c * Bf b i * (c' * Bf b j) * ch i j = c * c' * Bf b (i + j) := by
    rw [Bf_add]
    simp only [Nat.mul_assoc, Nat.mul_comm, Nat.mul_left_comm]
  rw [e] at h
  refine h.mono ?_
  rw [Nat.mul_comm]
  exact Nat.mul_le_mul_right _ (ch_le i j)
theorem two_ge (m : Nat) : m + 1 ≤ 2 ^ m := by
  induction m with
  | zero => decide
  | succ m ih => rw [Nat.pow_succ]; omega
/-- numbers whose bottoms and sizes grow step by step, up to T -/
def Gw (T c b μ K : Nat) (a : Nat → Rat) : Prop := ∀ i, i < T → Iw (c * Bf b i) (μ * K ^ i) (a i)
theorem Gw.mono {T : Nat} (h : Gw T c b μ K a) (hμ : μ ≤ μ') (hK : K ≤ L) : Gw T c b μ' L a := fun i hi => (h i hi).mono (Nat.mul_le_mul hμ (Nat.pow_le_pow_left hK i))
theorem Gw.cv {T : Nat} (ha : Gw T c b μ K a) (hb : Gw T c' b μ' K a') : Gw T (c * c') b (μ * μ') (4 * K) (cv a a') := fun m hm => by
  refine (Iw.sum (D := c * c' * Bf b m) (M := 2 ^ m * (μ * μ' * K ^ m)) fun i hi => ?_).mono ?_
  · have h := iw_mul_at (ha i (by omega)) (hb (m - i) (by omega))
    have e : i + (m - i) = m := by omega
    rw [e] at h
    refine h.mono (Nat.le_of_eq ?_)
    have : K ^ m = K ^ i * K ^ (m - i) := by rw [← Nat.pow_add, e]
    rw [this]
    simp only [Nat.mul_assoc, Nat.mul_comm, Nat.mul_left_comm]
  · rw [Nat.mul_pow, ← Nat.mul_assoc]
    have h1 : (m + 1) * 2 ^ m ≤ 4 ^ m := by
      rw [show 4 = 2 * 2 from rfl, Nat.mul_pow]
      exact Nat.mul_le_mul_right _ (two_ge m)
    refine Nat.le_trans (Nat.mul_le_mul_right _ h1) (Nat.le_of_eq ?_)
    simp only [Nat.mul_assoc, Nat.mul_comm, Nat.mul_left_comm]
theorem gw_one {T : Nat} (K : Nat) : Gw T 1 b 1 K one_ := fun i hi => by
  unfold one_
  split
  · rename_i h
    subst h
    exact ⟨1, by simp [Bf, fct], by simp⟩
  · exact Iw.zero _ _
theorem gw_pw {T : Nat} (ha : Gw T 1 b 1 K a) : ∀ k, Gw T 1 b 1 (4 ^ k * K) (pw a k)
  | 0 => gw_one _
  | k + 1 => by
    have h := Gw.cv (gw_pw ha k) (ha.mono (Nat.le_refl _) (Nat.le_mul_of_pos_left K (Nat.pow_pos (by decide : 0 < 4))) : Gw T 1 b 1 (4 ^ k * K) a)
    rw [Nat.pow_succ, Nat.mul_comm (4 ^ k) 4, Nat.mul_assoc]
    exact h
theorem gw_iv {T : Nat} (hT : T ≤ 12) (ha : Gw T 1 b 1 K a) : Gw T 1 b 1 (2 ^ 24 * K) (iv a) := by
  have pos : K ≤ 2 ^ 24 * K := Nat.le_mul_of_pos_left K (Nat.two_pow_pos _)
  intro i
  induction i using Nat.strongRecOn with
  | _ i ih =>
    intro hi
    cases i with
    | zero => rw [iv_zero]; exact ⟨1, by simp [Bf, fct], by simp⟩
    | succ j =>
      rw [iv_succ]
      refine (Iw.sum (D := 1 * Bf b (j + 1)) (M := 2 ^ (j + 1) * (K * (2 ^ 24 * K) ^ j)) fun l hl => ?_).neg.mono ?_
      · have h := iw_mul_at (ha (l + 1) (by omega)) (ih (j - l) (by omega) (by omega))
        have e : l + 1 + (j - l) = j + 1 := by omega
        rw [e] at h
        refine h.mono (Nat.mul_le_mul_left _ ?_)
        rw [Nat.one_mul, Nat.one_mul, Nat.pow_succ, Nat.mul_comm (K ^ l), Nat.mul_assoc]
        refine Nat.mul_le_mul_left _ ?_
        have e2 : j = l + (j - l) := by omega
        have : (2 ^ 24 * K) ^ j = (2 ^ 24 * K) ^ l * (2 ^ 24 * K) ^ (j - l) := by rw [← Nat.pow_add, ← e2]
        rw [this]
        exact Nat.mul_le_mul_right _ (Nat.pow_le_pow_left pos l)
      · rw [Nat.one_mul, Nat.pow_succ (2 ^ 24 * K)]
        have h1 : (j + 1) * 2 ^ (j + 1) ≤ 2 ^ 24 := by
          refine Nat.le_trans (Nat.mul_le_mul (by omega : j + 1 ≤ 2 ^ 4) (Nat.pow_le_pow_right (by decide) (by omega : j + 1 ≤ 12))) (by decide)
        rw [← Nat.mul_assoc, ← Nat.mul_assoc]
        refine Nat.le_trans (Nat.mul_le_mul_right _ (Nat.mul_le_mul_right _ h1)) (Nat.le_of_eq (Nat.mul_comm ..))
/-- integer powers -/
theorem gw_zp {T : Nat} (hT : T ≤ 12) (ha : Gw T 1 b 1 K a) (z : Int) (hz : z.natAbs ≤ 24) : Gw T 1 b 1 (2 ^ 72 * K) (zp a z) := by
  have up : ∀ k, k ≤ 24 → 4 ^ k * K ≤ 2 ^ 48 * K := fun k hk => Nat.mul_le_mul_right _ (Nat.le_trans (Nat.pow_le_pow_right (by decide) hk) (by decide))
  unfold zp
  split
  · refine (gw_pw ha _).mono (Nat.le_refl _) (Nat.le_trans (up _ (by omega)) (Nat.mul_le_mul_right _ (Nat.pow_le_pow_right (by decide) (by decide))))
  · refine (gw_pw (gw_iv hT ha) _).mono (Nat.le_refl _) ?_
    rw [← Nat.mul_assoc]
    refine Nat.mul_le_mul_right _ ?_
    refine Nat.le_trans (Nat.mul_le_mul_right _ (Nat.le_trans (Nat.pow_le_pow_right (by decide) hz) (by decide : 4 ^ 24 ≤ 2 ^ 48))) (by decide)
/-- the told numbers, and what is left -/
theorem gw_lf {T j i : Nat} (hT : T ≤ 12) (hi : i < T) (hj : j ≤ i) (ho : Iw c μ (o i)) (hL : 2 ^ 25 * K ≤ L) (hb : 32 * b ≤ L) (hs : ∀ l, l < j → Iw (c * Bf b l) (μ * L ^ l) (s l)) (hz : ∀ l, l < j → Gw T 1 b 1 K (zp r (p - l))) : Iw (c * Bf b i) (μ * L ^ i) (lf r p s o j i) := by
  have h0 := ho.scale (Bf b i)
  cases i with
  | zero =>
    have : j = 0 := by omega
    subst this
    rw [lf_zero]
    refine h0.mono ?_
    simp [Bf, fct]
  | succ i =>
    have hsum : Iw (c * Bf b (i + 1)) (j * (2 ^ (i + 1) * (μ * (K * L ^ i)))) (sumR j fun l => s l * tl r p l (i + 1)) := Iw.sum fun l hl => by
      unfold tl
      rw [if_pos (by omega)]
      have h := iw_mul_at (hs l hl) (hz l hl (i + 1 - l) (by omega))
      have e : l + (i + 1 - l) = i + 1 := by omega
      rw [e, Nat.mul_one] at h
      refine h.mono (Nat.mul_le_mul_left _ ?_)
      rw [Nat.one_mul, Nat.mul_assoc]
      refine Nat.mul_le_mul_left _ ?_
      have e2 : i + 1 - l = (i - l) + 1 := by omega
      rw [e2, Nat.pow_succ]
      have e3 : L ^ i = L ^ l * L ^ (i - l) := by rw [← Nat.pow_add]; congr 1; omega
      rw [e3]
      have KL : K ≤ L := Nat.le_trans (Nat.le_mul_of_pos_left K (Nat.two_pow_pos 25)) hL
      have := Nat.mul_le_mul_left (L ^ l) (Nat.mul_le_mul_right K (Nat.pow_le_pow_left KL (i - l)))
      refine Nat.le_trans this (Nat.le_of_eq ?_)
      simp only [Nat.mul_assoc, Nat.mul_comm, Nat.mul_left_comm]
    have e : lf r p s o j (i + 1) = o (i + 1) + -(sumR j fun l => s l * tl r p l (i + 1)) := by unfold lf; grind
    rw [e]
    refine (h0.add hsum.neg).mono ?_
    have b1 : 2 * Bf b (i + 1) ≤ L ^ (i + 1) := by
      have h1 : Bf b (i + 1) ≤ (16 * b) ^ (i + 1) := Bf_le (by omega)
      have h2 : 2 * (16 * b) ^ (i + 1) ≤ (32 * b) ^ (i + 1) := by
        have : 32 * b = 2 * (16 * b) := by omega
        rw [this, Nat.mul_pow 2]
        exact Nat.mul_le_mul_right _ (Nat.le_self_pow (by omega) 2)
      have h3 := Nat.pow_le_pow_left hb (i + 1)
      omega
    have b2 : 2 * (j * (2 ^ (i + 1) * (K * L ^ i))) ≤ L ^ (i + 1) := by
      have h1 : 2 * (j * 2 ^ (i + 1)) ≤ 2 ^ 25 := Nat.le_trans (Nat.mul_le_mul_left 2 (Nat.mul_le_mul (by omega : j ≤ 2 ^ 4) (Nat.pow_le_pow_right (by decide) (by omega : i + 1 ≤ 12)))) (by decide)
      have h2 := Nat.mul_le_mul_right (K * L ^ i) h1
      have h3 := Nat.mul_le_mul_right (L ^ i) hL
      have e5 : L ^ (i + 1) = L ^ i * L := Nat.pow_succ ..
      rw [e5]
      refine Nat.le_trans (Nat.le_of_eq ?_) (Nat.le_trans h2 (Nat.le_trans (Nat.le_of_eq ?_) (Nat.le_trans h3 (Nat.le_of_eq (Nat.mul_comm ..)))))
      · simp only [Nat.mul_assoc]
      · simp only [Nat.mul_assoc]
    have b3 := Nat.mul_le_mul_left μ b1
    have b4 := Nat.mul_le_mul_left μ b2
    have e3 : j * (2 ^ (i + 1) * (μ * (K * L ^ i))) = μ * (j * (2 ^ (i + 1) * (K * L ^ i))) := by simp only [Nat.mul_assoc, Nat.mul_comm, Nat.mul_left_comm]
    rw [e3]
    rw [Nat.mul_left_comm μ 2] at b3 b4
    omega
theorem gw_sl {T : Nat} (hT : T ≤ 12) (ho : ∀ i, i < T → Iw c μ (o i)) (hL : 2 ^ 25 * K ≤ L) (hb : 32 * b ≤ L) (hz : ∀ l : Nat, l < T → Gw T 1 b 1 K (zp r (p - l))) : Gw T c b μ L (sl r p o) := by
  intro i
  induction i using Nat.strongRecOn with
  | _ i ih =>
    intro hi
    rw [sl_lf]
    exact gw_lf hT hi (Nat.le_refl _) (ho i hi) hL hb (fun l hl => ih l hl (by omega)) fun l hl => hz l (by omega)
/-- the root's own -/
theorem gw_root {H A n T : Nat} (hn : 0 < n) (hH : 0 < H) (hh : h 0 = 1) (Hh : ∀ i, Iw H (A * H) (h i)) (hT : T ≤ 12) : Gw T 1 (H * n) 1 ((A + 1) * (16 * (H * n))) (root h n) := fun i hi => by
  have h1 := rootH_iw hn hh Hh i i (Nat.le_refl _)
  have e : WnH H n i = 1 * Bf (H * n) i := by unfold WnH Bf; rw [Nat.one_mul]
  rw [e] at h1
  refine h1.mono ?_
  rw [Nat.one_mul, Nat.one_mul, Nat.mul_pow]
  exact Nat.mul_le_mul_left _ (Bf_le (by omega))
end
end DE

set_option Elab.async false
set_option linter.all false
set_option maxRecDepth 100000
set_option maxHeartbeats 4000000
set_option autoImplicit false
/-! Values of polynomials: what has the same values is the same. -/
namespace DE
open PySem
section
variable {f g h : List Rat} {x y c : Rat} {n m : Nat}
/-- the value of f at x -/
def vl (f : List Rat) (x : Rat) : Rat := f.foldr (fun a r => a + x * r) 0
theorem vl_nil : vl [] x = 0 := rfl
theorem vl_cons (a : Rat) : vl (a :: f) x = a + x * vl f x := rfl
theorem vl_zeros : ∀ {f : List Rat}, (∀ i, co f i = 0) → vl f x = 0
  | [], _ => rfl
  | a :: f, h => by
    have h0 : a = 0 := h 0
    have h1 : vl f x = 0 := vl_zeros fun i => h (i + 1)
    rw [vl_cons, h0, h1]; grind
theorem vl_co : ∀ {f g : List Rat}, (∀ i, co f i = co g i) → vl f x = vl g x
  | [], g, h => by rw [vl_nil, vl_zeros fun i => by rw [← h i]; rfl]
  | a :: f, [], h => by rw [vl_nil, vl_zeros fun i => by rw [h i]; rfl]
  | a :: f, b :: g, h => by
    have h0 : a = b := h 0
    rw [vl_cons, vl_cons, h0, vl_co (f := f) (g := g) fun i => h (i + 1)]
theorem vl_trim (f : List Rat) : vl (trim f) x = vl f x := vl_co (co_trim f)
theorem vl_addL : ∀ {f g k : List Rat}, (∀ i, co k i = co f i + co g i) → vl k x = vl f x + vl g x
  | [], g, k, h => by rw [vl_nil, Rat.zero_add]; exact vl_co fun i => by rw [h i]; show 0 + _ = _; grind
  | a :: f, [], k, h => by rw [vl_nil, Rat.add_zero]; exact vl_co fun i => by rw [h i]; show _ + 0 = _; grind
  | a :: f, b :: g, [], h => by
    have h0 : 0 = a + b := h 0
    have h1 : vl [] x = vl f x + vl g x := vl_addL (k := []) fun i => h (i + 1)
    rw [vl_nil] at h1
    rw [vl_nil, vl_cons, vl_cons]; grind
  | a :: f, b :: g, c :: k, h => by
    have h0 : c = a + b := h 0
    have h1 : vl k x = vl f x + vl g x := vl_addL fun i => h (i + 1)
    rw [vl_cons, vl_cons, vl_cons, h0, h1]; grind
theorem vl_add : vl (addP f g) x = vl f x + vl g x := vl_addL fun i => co_addP f g i
theorem vl_mulL : ∀ {f k : List Rat}, (∀ i, co k i = c * co f i) → vl k x = c * vl f x
  | [], k, h => by
    have : vl k x = 0 := vl_zeros fun i => by rw [h i]; show c * 0 = 0; grind
    rw [this, vl_nil]; grind
  | a :: f, [], h => by
    have h0 : 0 = c * a := h 0
    have h1 : vl [] x = c * vl f x := vl_mulL (k := []) fun i => h (i + 1)
    rw [vl_nil] at h1
    rw [vl_nil, vl_cons]; grind
  | a :: f, b :: k, h => by
    have h0 : b = c * a := h 0
    have h1 : vl k x = c * vl f x := vl_mulL fun i => h (i + 1)
    rw [vl_cons, vl_cons, h0, h1]; grind
theorem vl_mulC : vl (mulC c f) x = c * vl f x := vl_mulL fun i => co_mulC c f i
theorem vl_sub : vl (subP f g) x = vl f x - vl g x := by
  rw [subP, vl_add, vl_mulC]; grind
theorem vl_one : vl (trim [c]) x = c := by rw [vl_trim, vl_cons, vl_nil]; grind
/-- products -/
theorem vl_mul : ∀ {f k : List Rat}, (∀ i, co k i = conv f.length (co f) (co g) i) → vl k x = vl f x * vl g x
  | [], k, h => by
    have : vl k x = 0 := vl_zeros fun i => by rw [h i]; rfl
    rw [this, vl_nil]; grind
  | a :: f, k, h => by
    -- the rest's product, one place on
    let r : List Rat := (List.range (f.length + g.length)).map fun i => conv f.length (co f) (co g) i
    have hr : ∀ i, co r i = conv f.length (co f) (co g) i := fun i => by
      show co ((List.range (f.length + g.length)).map _) i = _
      rw [co_map]
      split
      · rfl
      · symm
        refine sumR_zero fun j hj => ?_
        split
        · rw [co_ge (f := g) (by omega), Rat.mul_zero]
        · rfl
    have h1 := vl_mul (f := f) (k := r) hr
    have e : ∀ i, co k i = co (g.map (a * ·)) i + co (0 :: r) i := fun i => by
      rw [h i, co_maps (by simp)]
      show conv (f.length + 1) _ _ i = _
      have e1 : conv (f.length + 1) (co (a :: f)) (co g) i = a * co g i + sumR f.length (fun j => if j + 1 ≤ i then co f j * co g (i - (j + 1)) else 0) := by
        unfold conv
        rw [sumR_front, if_pos (Nat.zero_le _)]
        rfl
      rw [e1]
      congr 1
      cases i with
      | zero =>
        show _ = (0 : Rat)
        exact sumR_zero fun j hj => if_neg (by omega)
      | succ i =>
        show _ = co r i
        rw [hr i]
        refine sumR_congr fun j hj => ?_
        by_cases hji : j ≤ i
        · rw [if_pos (by omega), if_pos hji]; congr 2; omega
        · rw [if_neg (by omega), if_neg hji]
    rw [vl_addL e, vl_cons, vl_cons, h1]
    have e2 : vl (g.map (a * ·)) x = a * vl g x := vl_mulL fun i => by rw [co_maps (by simp)]
    rw [e2]; grind
/-! equal values -/
theorem sd_len (c : Rat) : ∀ f : List Rat, ∃ q : List Rat, q.length = f.length - 1 ∧ (∀ x, vl f x = vl f c + (x - c) * vl q x) ∧ ∀ i, co f (i + 1) = co q i - c * co q (i + 1)
  | [] => ⟨[], rfl, fun x => by rw [vl_nil, vl_nil]; grind, fun i => by show (0 : Rat) = 0 - c * 0; grind⟩
  | [a] => ⟨[], rfl, fun x => by rw [vl_cons, vl_cons, vl_nil, vl_nil]; grind, fun i => by show (0 : Rat) = 0 - c * 0; grind⟩
  | a :: b :: f => by
    obtain ⟨q, h1, h2, h3⟩ := sd_len c (b :: f)
    have key : ∀ i, co (addL (b :: f) (q.map (c * ·))) i = co (b :: f) i + c * co q i := fun i => by rw [co_addL, co_maps (by simp)]
    refine ⟨addL (b :: f) (q.map (c * ·)), by rw [len_addL, List.length_map, h1]; simp, fun x => ?_, fun i => ?_⟩
    · have e : vl (addL (b :: f) (q.map (c * ·))) x = vl (b :: f) x + c * vl q x := by
        rw [vl_addL fun i => co_addL _ _ i, vl_mulL (f := q) (k := q.map (c * ·)) (c := c) fun i => by rw [co_maps (by simp)]]
      have h2x := h2 x
      rw [vl_cons a, vl_cons a, e]
      generalize vl (b :: f) x = u at *
      generalize vl (b :: f) c = w at *
      generalize vl q x = t at *
      grind
    · rw [key, key]
      have := h3 i
      show co (b :: f) i = _
      generalize co (b :: f) i = u at *
      generalize co (b :: f) (i + 1) = w at *
      grind
theorem vl_none : ∀ (s : Nat) (f : List Rat) (N : Nat), f.length ≤ s → (∀ k : Nat, N ≤ k → vl f (k : Rat) = 0) → ∀ i, co f i = 0
  | 0, f, N, hl, _ => fun i => co_ge (by omega)
  | s + 1, f, N, hl, h => by
    obtain ⟨q, h1, h2, h3⟩ := sd_len (N : Rat) f
    have h0 := h N (Nat.le_refl _)
    have hq : ∀ i, co q i = 0 := vl_none s q (N + 1) (by omega) fun k hk => by
      have e1 := h k (by omega)
      rw [h2 (k : Rat), h0, Rat.zero_add] at e1
      rcases Rat.mul_eq_zero.mp e1 with z | z
      · exfalso
        have : (k : Rat) = (N : Rat) := by grind
        have : k = N := by exact_mod_cast this
        omega
      · exact z
    have up : ∀ i, co f (i + 1) = 0 := fun i => by rw [h3 i, hq, hq]; grind
    intro i
    cases i with
    | succ i => exact up i
    | zero =>
      cases f with
      | nil => rfl
      | cons a f =>
        have vf : vl f (N : Rat) = 0 := vl_zeros fun i => up i
        rw [vl_cons, vf] at h0
        show a = 0
        grind
theorem vl_ext (h : ∀ x, vl f x = vl g x) (i : Nat) : co f i = co g i := by
  have := vl_none (subP f g).length (subP f g) 0 (Nat.le_refl _) (fun k _ => by rw [vl_sub, h]; grind) i
  rw [co_subP] at this
  grind
theorem tr_vl (hf : Tr f) (hg : Tr g) (h : ∀ x, vl f x = vl g x) : f = g := tr_ext hf hg (vl_ext h)
end
end DE

set_option Elab.async false
set_option linter.all false
set_option maxRecDepth 100000
set_option maxHeartbeats 4000000
set_option autoImplicit false
/-! Polynomials put into one another, digits. -/
namespace DE
open PySem
section
variable {f g h u : List Rat} {x y c : Rat} {n m N i j : Nat}
theorem vl_mulP : vl (mulP f g) x = vl f x * vl g x := vl_mul (co_mulP f g)
theorem vl_pP : ∀ k, vl (pP h k) x = vl h x ^ k
  | 0 => by show vl [1] x = _; rw [vl_cons, vl_nil, Rat.pow_zero]; grind
  | k + 1 => by show vl (mulP (pP h k) h) x = _; rw [vl_mulP, vl_pP k, Rat.pow_succ]
def stepP (h F : List Rat) (x : Rat) : List Rat := addP (mulP F h) (trim [x])
def compP (g h : List Rat) : List Rat := g.foldr (fun x F => stepP h F x) []
theorem compP_cons (a : Rat) : compP (a :: g) h = stepP h (compP g h) a := rfl
theorem vl_comp : ∀ {g : List Rat}, vl (compP g h) x = vl g (vl h x)
  | [] => rfl
  | a :: g => by
    rw [compP_cons, stepP, vl_add, vl_mulP, vl_one, vl_comp (g := g), vl_cons]; grind
/-! division by values -/
theorem vl_div (h0 : h ≠ []) (hl : co h (h.length - 1) ≠ 0) : vl f x = vl (divQ f h) x * vl h x + vl (divR f h) x := by
  have le : (divQ f h).length ≤ dnq f h := by have := trim_len (dv f h (dnq f h)).2; rw [len_dv2] at this; exact this
  have e : ∀ i, co f i = co (mulP (divQ f h) h) i + co (divR f h) i := fun i => by
    rw [div_eq h0 hl i, co_mulP, conv_more le fun j hj => co_ge hj]
  rw [vl_addL e, vl_mulP]
/-- a polynomial to divide by -/
structure Dh (m : Nat) (h : List Rat) : Prop where
  len : h.length = m + 1
  m0 : 0 < m
  nz : co h m ≠ 0
theorem Dh.ne (H : Dh m h) : h ≠ [] := fun z => by have := H.len; rw [z] at this; simp at this
theorem Dh.top (H : Dh m h) : co h (h.length - 1) ≠ 0 := by rw [H.len]; exact H.nz
theorem Dh.tr (H : Dh m h) : Tr h := fun z => by
  have e : h.getLast? = some (co h m) := by
    rw [List.getLast?_eq_getElem?, H.len]
    exact co_lt (by rw [H.len]; omega)
  rw [e] at z
  exact H.nz (Option.some.inj z)
/-- division just one -/
theorem div_one (H : Dh m h) {q r : List Rat} (hq : Tr q) (hr : Tr r) (lr : r.length ≤ m) (e : ∀ x, vl f x = vl q x * vl h x + vl r x) : divQ f h = q ∧ divR f h = r := by
  have e1 : ∀ x, vl f x = vl (addP (mulP q h) r) x := fun x => by rw [e, vl_add, vl_mulP]
  have e2 := vl_ext e1
  have le : (divQ f h).length ≤ dnq f h := by have := trim_len (dv f h (dnq f h)).2; rw [len_dv2] at this; exact this
  have lR := divR_len (f := f) H.ne H.top
  have hl := H.len
  obtain ⟨a, b⟩ := div_unique (h := h) H.tr H.ne (n := max (dnq f h) q.length) (q := co (divQ f h)) (q' := co q) (r := co (divR f h)) (r' := co r) (fun i hi => co_ge (by omega)) (fun i hi => co_ge (by omega)) (fun i hi => co_ge (by omega)) (fun i hi => co_ge (by omega)) (fun i => by
    have d := div_eq (f := f) H.ne H.top i
    rw [conv_more (n := dnq f h) (m := max (dnq f h) q.length) (by omega) fun j hj => co_ge (by omega), ← d, e2 i, co_addP, co_mulP, conv_more (n := q.length) (m := max (dnq f h) q.length) (by omega) fun j hj => co_ge hj])
  exact ⟨tr_ext (trim_tr _) hq a, tr_ext (trim_tr _) hr b⟩
/-! digits -/
def qs (f h : List Rat) : Nat → List Rat
  | 0 => f
  | j + 1 => divQ (qs f h j) h
def dg (f h : List Rat) (j : Nat) : List Rat := divR (qs f h j) h
theorem qs_tr (ht : Tr f) : ∀ j, Tr (qs f h j)
  | 0 => ht
  | j + 1 => trim_tr _
theorem qs_len (H : Dh m h) (ht : Tr f) : ∀ j, (qs f h j).length = f.length - j * m
  | 0 => by simp [qs]
  | j + 1 => by
    have ih := qs_len H ht j
    have := divQ_len (f := qs f h j) H.ne H.top (qs_tr ht j)
    have e := H.len
    rw [qs, this, dnq, ih, Nat.succ_mul]; omega
theorem qs_succ (j : Nat) : qs f h (j + 1) = qs (divQ f h) h j := by
  induction j with
  | zero => rfl
  | succ j ih => rw [qs, ih]; rfl
theorem dg_succ (j : Nat) : dg f h (j + 1) = dg (divQ f h) h j := by unfold dg; rw [qs_succ]
theorem dg_len (H : Dh m h) (j : Nat) : (dg f h j).length ≤ m := by
  have := divR_len (f := qs f h j) H.ne H.top
  rw [H.len] at this
  unfold dg; omega
theorem dg_tr (j : Nat) : Tr (dg f h j) := trim_tr _
/-- how many digits -/
def nd (f h : List Rat) : Nat := (f.length + (h.length - 1) - 1) / (h.length - 1)
theorem nd_iff (H : Dh m h) (j : Nat) : j < nd f h ↔ j * m < f.length := by
  have e := H.len
  have m0 := H.m0
  have e2 : h.length - 1 = m := by omega
  rw [nd, e2]
  constructor
  · intro hj
    have h1 : (j + 1) * m ≤ f.length + m - 1 := Nat.le_trans (Nat.mul_le_mul_right m hj) (Nat.div_mul_le_self _ _)
    rw [Nat.succ_mul] at h1; omega
  · intro hj
    have : j + 1 ≤ (f.length + m - 1) / m := (Nat.le_div_iff_mul_le m0).mpr (by rw [Nat.succ_mul]; omega)
    exact this
theorem qs_ne (H : Dh m h) (ht : Tr f) (j : Nat) : qs f h j ≠ [] ↔ j < nd f h := by
  rw [nd_iff H, ← List.length_pos_iff, qs_len H ht]; omega
theorem divR_nil : divR ([] : List Rat) h = [] := by
  have : ∀ s, (dv [] h s).1 = [] := fun s => List.length_eq_zero_iff.mp (by rw [len_dv1]; rfl)
  unfold divR; rw [this]; rfl
theorem dg_ge (H : Dh m h) (ht : Tr f) {j : Nat} (hj : nd f h ≤ j) : dg f h j = [] := by
  have : qs f h j = [] := Classical.byContradiction fun z => by
    have := (qs_ne H ht j).mp z; omega
  rw [dg, this, divR_nil]
theorem nd_le (H : Dh m h) : nd f h ≤ f.length := by
  refine Classical.byContradiction fun z => ?_
  have := (nd_iff (f := f) H f.length).mp (by omega)
  have m0 := H.m0
  have : f.length * 1 ≤ f.length * m := Nat.mul_le_mul_left _ m0
  omega
/-- put together -/
def gs (h : List Rat) (e : Nat → List Rat) : Nat → List Rat
  | 0 => []
  | N + 1 => addP (mulP (gs h (fun j => e (j + 1)) N) h) (e 0)
theorem vl_digits (H : Dh m h) : ∀ {f : List Rat} (N : Nat), Tr f → f.length ≤ N * m → ∀ x, vl f x = vl (gs h (dg f h) N) x
  | f, 0, _, hl, x => by
    have : f = [] := List.length_eq_zero_iff.mp (by omega)
    rw [this]; rfl
  | f, N + 1, ht, hl, x => by
    have l := divQ_len (f := f) H.ne H.top ht
    have e := H.len
    have m0 := H.m0
    rw [Nat.succ_mul] at hl
    have ih := vl_digits H (f := divQ f h) N (trim_tr _) (by rw [l, dnq]; omega) x
    have e1 : (fun j => dg f h (j + 1)) = dg (divQ f h) h := funext fun j => dg_succ j
    show _ = vl (addP (mulP (gs h (fun j => dg f h (j + 1)) N) h) (dg f h 0)) x
    rw [vl_add, vl_mulP, e1, ← ih]
    exact vl_div H.ne H.top
theorem gs_tr (h : List Rat) (e : Nat → List Rat) : ∀ N, Tr (gs h e N)
  | 0 => tr_nil
  | N + 1 => trim_tr _
theorem dg_nil (H : Dh m h) (j : Nat) : dg [] h j = [] := dg_ge H tr_nil (by
  have := nd_le (f := []) H
  simp at this; omega)
/-- digits are just one -/
theorem dg_gs (H : Dh m h) : ∀ (N : Nat) {f : List Rat} {e : Nat → List Rat}, (∀ j, Tr (e j)) → (∀ j, (e j).length ≤ m) → (∀ x, vl f x = vl (gs h e N) x) → ∀ j, dg f h j = if j < N then e j else []
  | 0, f, e, _, _, hv, j => by
    have z : ∀ i, co f i = 0 := fun i => vl_ext (g := []) hv i
    rw [if_neg (by omega)]
    have q : ∀ j, (∀ i, co (qs f h j) i = 0) := by
      intro j
      induction j with
      | zero => exact z
      | succ j ih =>
        obtain ⟨a, _⟩ := div_one (f := qs f h j) H tr_nil tr_nil (by simp) fun x => by rw [vl_zeros ih, vl_nil]; grind
        intro i; rw [qs, a]; rfl
    obtain ⟨_, b⟩ := div_one (f := qs f h j) H tr_nil tr_nil (by simp) fun x => by rw [vl_zeros (q j), vl_nil]; grind
    exact b
  | N + 1, f, e, h1, h2, hv, j => by
    have hv' : ∀ x, vl f x = vl (gs h (fun j => e (j + 1)) N) x * vl h x + vl (e 0) x := fun x => by
      rw [hv]; show vl (addP (mulP _ h) (e 0)) x = _
      rw [vl_add, vl_mulP]
    obtain ⟨a, b⟩ := div_one H (gs_tr _ _ _) (h1 0) (h2 0) hv'
    cases j with
    | zero => rw [if_pos (by omega)]; exact b
    | succ j =>
      rw [dg_succ, a, dg_gs H N (fun j => h1 (j + 1)) (fun j => h2 (j + 1)) (fun _ => rfl) j]
      by_cases hj : j < N
      · rw [if_pos hj, if_pos (by omega)]
      · rw [if_neg hj, if_neg (by omega)]
theorem gs_congr {e e' : Nat → List Rat} : ∀ (N : Nat), (∀ j, j < N → e j = e' j) → gs h e N = gs h e' N
  | 0, _ => rfl
  | N + 1, he => by
    show addP (mulP (gs h _ N) h) (e 0) = addP (mulP (gs h _ N) h) (e' 0)
    rw [he 0 (by omega), gs_congr N fun j hj => he (j + 1) (by omega)]
theorem comp_gs : ∀ u : List Rat, compP u h = gs h (fun j => trim [co u j]) u.length
  | [] => rfl
  | a :: u => by
    show addP (mulP (compP u h) h) (trim [a]) = addP (mulP (gs h (fun j => trim [co u j]) u.length) h) (trim [a])
    rw [comp_gs u]
theorem trim_one0 : trim [(0 : Rat)] = [] := by simp [trim]
theorem one_le (c : Rat) : (trim [c]).length ≤ 1 := Nat.le_trans (trim_len _) (by simp)
/-- the digits of u put upon h -/
theorem dg_comp (H : Dh m h) (hv : ∀ x, vl f x = vl u (vl h x)) (j : Nat) : dg f h j = trim [co u j] := by
  have m0 := H.m0
  rw [dg_gs H u.length (e := fun j => trim [co u j]) (fun j => trim_tr _) (fun j => Nat.le_trans (one_le _) m0) (fun x => by rw [hv, ← vl_comp, comp_gs]) j]
  split
  · rfl
  · rw [co_ge (by omega), trim_one0]
/-- all digits are flat -/
def Fl (f h : List Rat) : Prop := ∀ j, (dg f h j).length ≤ 1
theorem flat_one {g : List Rat} (ht : Tr g) (hl : g.length ≤ 1) : g = trim [co g 0] := by
  refine tr_ext ht (trim_tr _) fun i => ?_
  rw [co_trim]
  cases i with
  | zero => rfl
  | succ i => rw [co_ge (by omega), co_ge (by simp)]
/-- what is outside -/
def ou (f h : List Rat) : List Rat := trim ((List.range (nd f h)).map fun j => co (dg f h j) 0)
theorem co_ou (H : Dh m h) (ht : Tr f) (j : Nat) : co (ou f h) j = co (dg f h j) 0 := by
  rw [ou, co_trim, co_map]
  split
  · rfl
  · rw [dg_ge H ht (by omega)]; rfl
theorem fl_out (H : Dh m h) (ht : Tr f) (F : Fl f h) (x : Rat) : vl f x = vl (ou f h) (vl h x) := by
  have m0 := H.m0
  rw [vl_digits H f.length ht (Nat.le_mul_of_pos_right _ m0) x, ← vl_comp, comp_gs]
  have e : (fun j => trim [co (ou f h) j]) = dg f h := funext fun j => by rw [co_ou H ht, ← flat_one (dg_tr j) (F j)]
  rw [e]
  -- more places change nothing
  have more : ∀ (a b : Nat) (e : Nat → List Rat), a ≤ b → (∀ j, a ≤ j → e j = []) → vl (gs h e b) x = vl (gs h e a) x := by
    intro a
    induction a with
    | zero =>
      intro b
      induction b with
      | zero => intro e _ _; rfl
      | succ b ih =>
        intro e _ he
        show vl (addP (mulP (gs h _ b) h) (e 0)) x = _
        rw [vl_add, vl_mulP, ih (fun j => e (j + 1)) (by omega) (fun j _ => he _ (by omega)), he 0 (by omega)]
        show vl [] x * _ + vl [] x = vl [] x
        rw [vl_nil]; grind
    | succ a ih =>
      intro b e hb he
      obtain ⟨b, rfl⟩ : ∃ b', b = b' + 1 := ⟨b - 1, by omega⟩
      show vl (addP (mulP (gs h _ b) h) (e 0)) x = vl (addP (mulP (gs h _ a) h) (e 0)) x
      rw [vl_add, vl_mulP, vl_add, vl_mulP, ih b (fun j => e (j + 1)) (by omega) fun j hj => he _ (by omega)]
  have l1 : (ou f h).length ≤ f.length := Nat.le_trans (trim_len _) (by rw [List.length_map, List.length_range]; exact nd_le H)
  refine more _ _ _ l1 fun j hj => ?_
  have := flat_one (dg_tr (f := f) (h := h) j) (F j)
  rw [this, ← co_ou H ht, co_ge hj, trim_one0]
theorem fl_iff (H : Dh m h) (ht : Tr f) : Fl f h ↔ ∃ u : List Rat, ∀ x, vl f x = vl u (vl h x) := by
  constructor
  · exact fun F => ⟨_, fl_out H ht F⟩
  · rintro ⟨u, hu⟩ j
    rw [dg_comp H hu]; exact one_le _
theorem ou_eq (H : Dh m h) (ht : Tr f) (hu : Tr u) (hv : ∀ x, vl f x = vl u (vl h x)) : ou f h = u := tr_ext (trim_tr _) hu fun j => by
  rw [co_ou H ht, dg_comp H hv, co_trim]; rfl
end
end DE

set_option Elab.async false
set_option linter.all false
set_option maxRecDepth 100000
set_option maxHeartbeats 4000000
set_option exponentiation.threshold 200000
set_option autoImplicit false
/-! Degrees of functions, candidates from values; sizes to degree 24. -/
namespace DE
open PySem
section
variable {f g h u : List Rat} {x y c : Rat} {n m N i j q H A d e : Nat} {F G K : Rat → Rat}
theorem fct_le24 : ∀ {j : Nat}, j ≤ 24 → fct j ≤ 24 ^ j
  | 0, _ => Nat.le_refl _
  | j + 1, h => by
    rw [fct, Nat.pow_succ, Nat.mul_comm]
    exact Nat.mul_le_mul (fct_le24 (by omega)) (by omega)
theorem WnH_pow24 {j : Nat} (hH : 0 < H) (hq : 0 < q) (hj : q * (j + 1) ≤ 24) (k : Nat) (hk : k ≤ q) : WnH H q j ^ k ≤ (H * 576) ^ 24 ∧ ((A + 1) ^ j * WnH H q j) ^ k ≤ ((A + 1) * (H * 576)) ^ 24 := by
  have q16 : q ≤ 24 := Nat.le_trans (Nat.le_mul_of_pos_right _ (by omega)) hj
  have j16 : j + 1 ≤ 24 := Nat.le_trans (Nat.le_mul_of_pos_left _ hq) hj
  have jk : j * k ≤ 24 := by
    refine Nat.le_trans (Nat.mul_le_mul_left j hk) ?_
    rw [Nat.mul_comm]
    exact Nat.le_trans (Nat.mul_le_mul_left q (by omega : j ≤ j + 1)) hj
  have b : WnH H q j ≤ (H * 576) ^ j := by
    unfold WnH
    rw [show (576 : Nat) = 24 * 24 from rfl, ← Nat.mul_assoc, Nat.mul_pow (H * 24)]
    exact Nat.mul_le_mul (Nat.pow_le_pow_left (Nat.mul_le_mul_left _ q16) _) (fct_le24 (by omega))
  refine ⟨?_, ?_⟩
  · refine Nat.le_trans (Nat.pow_le_pow_left b k) ?_
    rw [← Nat.pow_mul]
    exact Nat.pow_le_pow_right (Nat.mul_pos hH (by decide)) jk
  · refine Nat.le_trans (Nat.pow_le_pow_left (Nat.mul_le_mul_left _ b) k) ?_
    rw [← Nat.mul_pow, ← Nat.pow_mul]
    exact Nat.pow_le_pow_right (Nat.mul_pos (by omega) (Nat.mul_pos hH (by decide))) jk
def Rk4 (kk : Nat) (a : Nat → Rat) : Prop := ∃ D M, 0 < D ∧ (∀ k, k ≤ kk → D ^ k < 2 ^ 4400 ∧ (25 * M) ^ k < 2 ^ 20000) ∧ ∀ i, Iw D M (a i)
/-! degrees of functions -/
def Dg (d : Nat) (F : Rat → Rat) : Prop := ∃ r : List Rat, r.length ≤ d + 1 ∧ ∀ x, vl r x = F x
theorem Dg.mono (h : Dg d F) (hd : d ≤ e) : Dg e F := by
  obtain ⟨r, l, v⟩ := h
  exact ⟨r, by omega, v⟩
theorem Dg.congr (h : Dg d F) (e : ∀ x, F x = G x) : Dg d G := by
  obtain ⟨r, l, v⟩ := h
  exact ⟨r, l, fun x => (v x).trans (e x)⟩
theorem dg_const (c : Rat) : Dg 0 fun _ => c := ⟨[c], by simp, fun x => by rw [vl_cons, vl_nil]; grind⟩
theorem dg_vl (hl : f.length ≤ d + 1) : Dg d (vl f) := ⟨f, hl, fun _ => rfl⟩
theorem Dg.add (hF : Dg d F) (hG : Dg d G) : Dg d fun x => F x + G x := by
  obtain ⟨r, l, v⟩ := hF
  obtain ⟨s, l2, v2⟩ := hG
  exact ⟨addP r s, Nat.le_trans (len_addP _ _) (by omega), fun x => by rw [vl_add, v, v2]⟩
theorem len_mulP1 (hf : f.length ≤ d + 1) (hg : g.length ≤ e + 1) : (mulP f g).length ≤ d + e + 1 := tr_len (trim_tr _) fun i hi => by
  rw [co_trim, co_prodL]
  refine sumR_zero fun j hj => ?_
  split
  · rw [co_ge (f := g) (by omega), Rat.mul_zero]
  · rfl
theorem Dg.mul (hF : Dg d F) (hG : Dg e G) : Dg (d + e) fun x => F x * G x := by
  obtain ⟨r, l, v⟩ := hF
  obtain ⟨s, l2, v2⟩ := hG
  exact ⟨mulP r s, len_mulP1 l l2, fun x => by rw [vl_mulP, v, v2]⟩
theorem Dg.scale (hF : Dg d F) (c : Rat) : Dg d fun x => c * F x := by
  have := (dg_const c).mul hF
  rwa [Nat.zero_add] at this
theorem Dg.pow (hF : Dg d F) : ∀ k, Dg (d * k) fun x => F x ^ k
  | 0 => (dg_const 1).congr fun x => (Rat.pow_zero _).symm
  | k + 1 => ((Dg.pow hF k).mul hF).congr fun x => (Rat.pow_succ _ _).symm
/-- a power of a sum: all but the first part is lower -/
theorem pow_low (hF : Dg d F) (c : Rat) : ∀ q : Nat, ∃ R : Rat → Rat, Dg (d * q) R ∧ ∀ x, (F x + c) ^ (q + 1) = F x ^ (q + 1) + R x
  | 0 => ⟨fun _ => c, (dg_const c).mono (by omega), fun x => by rw [Rat.pow_succ, Rat.pow_succ, Rat.pow_zero, Rat.pow_zero]; grind⟩
  | q + 1 => by
    obtain ⟨R, h1, h2⟩ := pow_low hF c q
    refine ⟨fun x => c * F x ^ (q + 1) + R x * (F x + c), Dg.add ((hF.pow (q + 1)).scale c) ?_, fun x => ?_⟩
    · rw [Nat.mul_succ]
      exact h1.mul (hF.add ((dg_const c).mono (Nat.zero_le _)))
    · rw [Rat.pow_succ, h2, Rat.pow_succ (F x) (q + 1)]; grind
theorem pow_low2 (hF : Dg d F) (hG : Dg e G) (he : e ≤ d) : ∀ q : Nat, ∃ R : Rat → Rat, Dg (d * q + e) R ∧ ∀ x, (F x + G x) ^ (q + 1) = F x ^ (q + 1) + R x
  | 0 => ⟨G, hG.mono (by omega), fun x => by rw [Rat.pow_succ, Rat.pow_succ, Rat.pow_zero, Rat.pow_zero]; grind⟩
  | q + 1 => by
    obtain ⟨R, h1, h2⟩ := pow_low2 hF hG he q
    refine ⟨fun x => G x * F x ^ (q + 1) + R x * (F x + G x), Dg.add ?_ ?_, fun x => ?_⟩
    · have := hG.mul (hF.pow (q + 1))
      exact this.mono (by rw [Nat.mul_succ]; omega)
    · refine (h1.mul (hF.add (hG.mono he))).mono (by rw [Nat.mul_succ]; omega)
    · rw [Rat.pow_succ, h2, Rat.pow_succ (F x) (q + 1)]; grind
theorem vl_nrm (P : PL n f) : vl f x = co f n * vl (nrm f) x + co f 0 := by
  have e : ∀ i, co f i = co (mulC (co f n) (nrm f)) i + co [co f 0] i := fun i => by
    rw [co_mulC, co_nrm P]
    cases i with
    | zero => rw [if_pos rfl]; show _ = _ + co f 0; grind
    | succ i =>
      rw [if_neg (by omega), co_ge (f := [co f 0]) (by simp), Rat.add_zero, Rat.mul_comm, Rat.div_mul_cancel P.nz]
  rw [vl_addL e, vl_mulC, vl_cons, vl_nil]; grind
theorem nrm_nm (P : PL n f) : Nm n (nrm f) := ⟨len_nrm P, nrm_top P, by rw [co_nrm P, if_pos rfl]⟩
theorem nrm_self (G : Nm m g) (m0 : 0 < m) : nrm g = g := by
  have P : PL m g := ⟨G.len, m0, by rw [G.one]; decide⟩
  refine tr_ext (trim_tr _) G.tr fun i => ?_
  rw [co_nrm P, G.one]
  split
  · rename_i h; rw [h, G.zero]
  · grind
/-- the candidate by values -/
theorem cand_vl (ht : Tr f) (m0 : 0 < m) (e : m * (q + 1) = n) (P : PL m h) {L : Rat} (hL : L ≠ 0) {R : Rat → Rat} (hR : Dg (m * q) R) (hv : ∀ x, vl f x = L * vl h x ^ (q + 1) + R x) : PL n f ∧ co f n = L * co h m ^ (q + 1) ∧ cand f m (q + 1) = nrm h := by
  have N := nrm_nm P
  have hN : Dg m (vl (nrm h)) := dg_vl (by rw [N.len]; omega)
  obtain ⟨R1, d1, v1⟩ := pow_low (F := fun x => co h m * vl (nrm h) x) (hN.scale (co h m)) (co h 0) q
  have en : m * q + m = n := by rw [← e, Nat.mul_succ]
  -- f = L l^q N^q + lower
  obtain ⟨r, lr, vr⟩ := (d1.scale L).add hR
  have l0 : co h m ^ (q + 1) ≠ 0 := fun z => by
    have : ∀ s : Nat, co h m ^ s ≠ 0 := by
      intro s
      induction s with
      | zero => rw [Rat.pow_zero]; decide
      | succ s ih => rw [Rat.pow_succ]; intro z; rcases Rat.mul_eq_zero.mp z with z | z; exact ih z; exact P.nz z
    exact this _ z
  have key : ∀ x, vl f x = vl (addP (mulC (L * co h m ^ (q + 1)) (pP (nrm h) (q + 1))) r) x := fun x => by
    rw [vl_add, vl_mulC, vl_pP, vr, hv, vl_nrm P, v1]
    have : (co h m * vl (nrm h) x) ^ (q + 1) = co h m ^ (q + 1) * vl (nrm h) x ^ (q + 1) := by
      generalize q + 1 = s
      induction s with
      | zero => rw [Rat.pow_zero, Rat.pow_zero, Rat.pow_zero]; grind
      | succ s ih => rw [Rat.pow_succ, ih, Rat.pow_succ, Rat.pow_succ]; grind
    rw [this]; grind
  have ck := vl_ext key
  obtain ⟨pz, pr⟩ := rv_pP N.top (q + 1)
  have pt : co (pP (nrm h) (q + 1)) n = 1 := by
    have := pr 0
    rw [rv, if_pos (Nat.zero_le _), Nat.sub_zero, e, pw_zero (by rw [rv, if_pos (Nat.zero_le _), Nat.sub_zero, N.one])] at this
    exact this
  have top : co f n = L * co h m ^ (q + 1) := by
    rw [ck, co_addP, co_mulC, pt, co_ge (f := r) (by omega)]; grind
  have tnz : co f n ≠ 0 := by
    rw [top]; intro z
    rcases Rat.mul_eq_zero.mp z with z | z
    · exact hL z
    · exact l0 z
  have up : ∀ i, n < i → co f i = 0 := fun i hi => by
    rw [ck, co_addP, co_mulC, pz i (by rw [e]; exact hi), co_ge (f := r) (by omega)]; grind
  have lf : f.length = n + 1 := by
    have h1 := tr_len ht (n := n + 1) fun i hi => up i (by omega)
    have h2 : ¬ f.length ≤ n := fun z => tnz (co_ge z)
    omega
  have PF : PL n f := ⟨lf, by omega, tnz⟩
  refine ⟨PF, top, ?_⟩
  refine ((low_iff PF N e).mp ?_).symm
  refine tr_len restP_tr fun i hi => ?_
  rw [restP, co_subP, co_nrm PF, if_neg (by omega), ck i, co_addP, co_mulC, co_ge (f := r) (by omega), Rat.add_zero, top]
  have : L * co h m ^ (q + 1) ≠ 0 := by rw [← top]; exact tnz
  have e3 : L * co h m ^ (q + 1) * co (pP (nrm h) (q + 1)) i / (L * co h m ^ (q + 1)) = co (pP (nrm h) (q + 1)) i := by
    rw [Rat.mul_comm, Rat.mul_div_cancel this]
  rw [e3]; grind
end
end DE

set_option Elab.async false
set_option linter.all false
set_option maxRecDepth 100000
set_option maxHeartbeats 4000000
set_option exponentiation.threshold 200000
set_option autoImplicit false
/-! Sizes in divisions. -/
namespace DE
open PySem
section
variable {f h : List Rat} {x y : Rat} {n m i j s Q D M E N L V : Nat}
theorem Iw.scale2 (hx : Iw D M x) {r : Nat} (r0 : 0 < r) {M' : Nat} (h : M * r ≤ M') : Iw (D * r) M' x := (hx.scale r).mono h
/-- what is known of one division's numbers: f's bottom D, h's by its last number E, one through the last number L -/
structure Sv (m : Nat) (f h : List Rat) (D M E N L V : Nat) : Prop where
  dh : Dh m h
  D0 : 0 < D
  E0 : 0 < E
  L0 : 0 < L
  V0 : 0 < V
  pf : ∀ i, Iw D M (co f i)
  ph : ∀ i, Iw E N (co h i / co h m)
  pl : Iw L V (1 / co h m)
theorem Sv.last (Z : Sv m f h D M E N L V) : co h (h.length - 1) = co h m := by rw [Z.dh.len]; rfl
/-- rest and quotient while dividing -/
theorem Sv.dv (Z : Sv m f h D M E N L V) : ∀ s, s ≤ dnq f h → (∀ i, Iw (D * E ^ s) (M * (E + N) ^ s) (co (DE.dv f h s).1 i)) ∧ ∀ i, Iw (D * E ^ s * L) (M * (E + N) ^ s * V) (co (DE.dv f h s).2 i)
  | 0, _ => ⟨fun i => by simp only [Nat.pow_zero, Nat.mul_one]; exact Z.pf i, fun i => by simp only [DE.dv]; rw [co_zeros]; exact Iw.zero _ _⟩
  | s + 1, hs => by
    obtain ⟨i1, i2⟩ := Sv.dv Z s (by omega)
    have hp : 0 < h.length := by rw [Z.dh.len]; omega
    have hk : dnq f h - 1 - s + h.length ≤ (DE.dv f h s).1.length := by rw [len_dv1]; unfold dnq at *; omega
    have hk2 : dnq f h - 1 - s < (DE.dv f h s).2.length := by rw [len_dv2]; omega
    have e1 : D * E ^ (s + 1) = D * E ^ s * E := by rw [Nat.pow_succ, Nat.mul_assoc]
    have e2 : M * (E + N) ^ (s + 1) = M * (E + N) ^ s * E + M * (E + N) ^ s * N := by rw [Nat.pow_succ, ← Nat.mul_assoc, Nat.mul_add]
    have up : M * (E + N) ^ s * E ≤ M * (E + N) ^ (s + 1) := by rw [e2]; omega
    refine ⟨fun i => ?_, fun i => ?_⟩
    · simp only [DE.dv]
      rw [co_row _ _ hk, e1, e2, Z.last]
      refine ((i1 i).scale E).add ?_
      split
      · have := (i1 (dnq f h - 1 - s + (h.length - 1))).mul (Z.ph (i - (dnq f h - 1 - s)))
        have e : -(co (DE.dv f h s).1 (dnq f h - 1 - s + (h.length - 1)) / co h m) * co h (i - (dnq f h - 1 - s)) = -(co (DE.dv f h s).1 (dnq f h - 1 - s + (h.length - 1)) * (co h (i - (dnq f h - 1 - s)) / co h m)) := by
          rw [Rat.div_def, Rat.div_def]; grind
        rw [e]
        exact this.neg
      · exact Iw.zero _ _
    · simp only [DE.dv]
      rw [co_set hk2, e1, Z.last]
      have e3 : D * E ^ s * E * L = D * E ^ s * L * E := by ac_rfl
      have e4 : M * (E + N) ^ s * V * E ≤ M * (E + N) ^ (s + 1) * V := by
        have : M * (E + N) ^ s * V * E = M * (E + N) ^ s * E * V := by ac_rfl
        rw [this]; exact Nat.mul_le_mul_right _ up
      rw [e3]
      split
      · have := (i1 (dnq f h - 1 - s + (h.length - 1))).mul Z.pl
        have e : co (DE.dv f h s).1 (dnq f h - 1 - s + (h.length - 1)) / co h m = co (DE.dv f h s).1 (dnq f h - 1 - s + (h.length - 1)) * (1 / co h m) := by
          rw [Rat.div_def, Rat.div_def]; grind
        rw [e]
        exact this.scale2 Z.E0 e4
      · exact (i2 i).scale2 Z.E0 e4
/-- bottoms and tops of the whole run -/
structure Sb (n Q D M E N L V : Nat) : Prop where
  d : D * (E ^ n * L) ^ (Q + 1) < 2 ^ 4400
  m : M * ((E + N) ^ n * V) ^ (Q + 1) < 2 ^ 90000
  h : E < 2 ^ 4400
  hn : N < 2 ^ 90000
theorem iw_up {r : Nat} (hx : Iw D M x) (r0 : 0 < r) {D' M' : Nat} (e : D * r = D') (h : M * r ≤ M') : Iw D' M' x := by
  rw [← e]; exact hx.scale2 r0 h
/-- the digits' rests: j divisions -/
theorem Sv.qs (Z : Sv m f h D M E N L V) (ht : Tr f) (lf : f.length ≤ n + m) : ∀ j, Sv m (DE.qs f h j) h (D * (E ^ n * L) ^ j) (M * ((E + N) ^ n * V) ^ j) E N L V
  | 0 => by simp only [Nat.pow_zero, Nat.mul_one]; exact Z
  | j + 1 => by
    have ih := Sv.qs Z ht lf j
    have lq : (DE.qs f h j).length ≤ n + m := by rw [qs_len Z.dh ht]; omega
    have hl := Z.dh.len
    have m0 := Z.dh.m0
    have dn : dnq (DE.qs f h j) h ≤ n := by unfold dnq; omega
    refine ⟨Z.dh, Nat.mul_pos Z.D0 (Nat.pow_pos (Nat.mul_pos (Nat.pow_pos Z.E0) Z.L0)), Z.E0, Z.L0, Z.V0, fun i => ?_, Z.ph, Z.pl⟩
    obtain ⟨_, i2⟩ := ih.dv (dnq (DE.qs f h j) h) (Nat.le_refl _)
    have := i2 i
    show Iw _ _ (co (divQ (DE.qs f h j) h) i)
    rw [divQ, co_trim]
    have eD : D * (E ^ n * L) ^ (j + 1) = D * (E ^ n * L) ^ j * (E ^ n * L) := by rw [Nat.pow_succ, Nat.mul_assoc]
    have eM : M * ((E + N) ^ n * V) ^ (j + 1) = M * ((E + N) ^ n * V) ^ j * ((E + N) ^ n * V) := by rw [Nat.pow_succ, Nat.mul_assoc]
    rw [eD, eM]
    have sp : ∀ a : Nat, a ^ n = a ^ dnq (DE.qs f h j) h * a ^ (n - dnq (DE.qs f h j) h) := fun a => by rw [← Nat.pow_add]; congr 1; omega
    have le : E ^ (n - dnq (DE.qs f h j) h) ≤ (E + N) ^ (n - dnq (DE.qs f h j) h) := Nat.pow_le_pow_left (by omega) _
    have pe : 0 < E ^ (n - dnq (DE.qs f h j) h) := Nat.pow_pos Z.E0
    generalize D * (E ^ n * L) ^ j = D1 at *
    generalize M * ((E + N) ^ n * V) ^ j = M1 at *
    rw [sp E, sp (E + N)]
    generalize E ^ (n - dnq (DE.qs f h j) h) = a at *
    generalize (E + N) ^ (n - dnq (DE.qs f h j) h) = b at *
    generalize E ^ dnq (DE.qs f h j) h = a1 at *
    generalize (E + N) ^ dnq (DE.qs f h j) h = b1 at *
    refine iw_up this pe (by ac_rfl) ?_
    have e5 : M1 * (b1 * b * V) = M1 * b1 * V * b := by ac_rfl
    rw [e5]
    exact Nat.mul_le_mul_left _ le
/-- small enough for the program's fractions -/
def Sm4 (x : Rat) : Prop := x.num.natAbs < 2 ^ 100000 ∧ x.den < 2 ^ 4480
/-- all numbers of the run are small -/
structure Sz (m : Nat) (f h : List Rat) : Prop where
  dh : Dh m h
  hs : ∀ i, Sm4 (co h i)
  l : Hb 4480 (co h m)
  inv : Sm4 (1 / co h m)
  r : ∀ s, s ≤ dnq f h → ∀ i, Sm4 (co (DE.dv f h s).1 i)
  o : ∀ s, s ≤ dnq f h → ∀ i, Sm4 (co (DE.dv f h s).1 i / co h m)
  p : ∀ s, s < dnq f h → ∀ j, Sm4 (co (DE.dv f h s).1 (dnq f h - 1 - s + m) / co h m * co h j)
theorem sm_of (h : Iw D M x) (hD : 0 < D) (h1 : D < 2 ^ 4480) (h2 : M < 2 ^ 100000) : Sm4 x := ⟨h.hbn hD h2, h.hbd hD h1⟩
theorem Sv.sz (Z : Sv m f h D M E N L V) (ln : dnq f h ≤ n) (hd : D * (E ^ n * L) * E < 2 ^ 4480) (hm : M * ((E + N) ^ n * V) * (E + N) < 2 ^ 100000) (hh : ∀ i, Sm4 (co h i)) (hl : Hb 4480 (co h m)) (hi : Sm4 (1 / co h m)) : Sz m f h := by
  have key : ∀ s, s ≤ dnq f h → ∃ a b, a * E ≤ D * (E ^ n * L) * E ∧ b * (E + N) ≤ M * ((E + N) ^ n * V) * (E + N) ∧ 0 < a ∧ (∀ i, Iw a b (co (DE.dv f h s).1 i)) ∧ a * L * 1 ≤ D * (E ^ n * L) ∧ b * V ≤ M * ((E + N) ^ n * V) := fun s hs => by
    obtain ⟨i1, _⟩ := Z.dv s hs
    have p1 : E ^ s ≤ E ^ n := Nat.pow_le_pow_right Z.E0 (by omega)
    have p2 : (E + N) ^ s ≤ (E + N) ^ n := Nat.pow_le_pow_right (by have := Z.E0; omega) (by omega)
    have q1 : D * E ^ s * L ≤ D * (E ^ n * L) := by rw [Nat.mul_assoc]; exact Nat.mul_le_mul_left _ (Nat.mul_le_mul_right _ p1)
    have q2 : M * (E + N) ^ s * V ≤ M * ((E + N) ^ n * V) := by rw [Nat.mul_assoc]; exact Nat.mul_le_mul_left _ (Nat.mul_le_mul_right _ p2)
    refine ⟨D * E ^ s, M * (E + N) ^ s, Nat.mul_le_mul_right _ ?_, Nat.mul_le_mul_right _ ?_, Nat.mul_pos Z.D0 (Nat.pow_pos Z.E0), i1, by rw [Nat.mul_one]; exact q1, q2⟩
    · exact Nat.le_trans (Nat.le_mul_of_pos_right _ Z.L0) q1
    · exact Nat.le_trans (Nat.le_mul_of_pos_right _ Z.V0) q2
  have E1 := Z.E0
  have big1 : ∀ a, a ≤ D * (E ^ n * L) → a < 2 ^ 4480 := fun a ha => Nat.lt_of_le_of_lt (Nat.le_trans ha (Nat.le_mul_of_pos_right _ E1)) hd
  have big2 : ∀ a, a ≤ M * ((E + N) ^ n * V) → a < 2 ^ 100000 := fun a ha => Nat.lt_of_le_of_lt (Nat.le_trans ha (Nat.le_mul_of_pos_right _ (by omega))) hm
  have er : ∀ y z : Rat, y / co h m * z = y * (z / co h m) := fun y z => by rw [Rat.div_def, Rat.div_def]; grind
  have prod : ∀ s, s ≤ dnq f h → ∃ a b, 0 < a ∧ a < 2 ^ 4480 ∧ b < 2 ^ 100000 ∧ (∀ i j, Iw a b (co (DE.dv f h s).1 i / co h m * co h j)) ∧ ∀ i t j, Iw a b (co (DE.dv f h s).1 i - co (DE.dv f h s).1 t / co h m * co h j) := fun s hs => by
    obtain ⟨a, b, h1, h2, a0, h3, _, _⟩ := key s hs
    refine ⟨a * E, b * (E + N), Nat.mul_pos a0 E1, Nat.lt_of_le_of_lt h1 hd, Nat.lt_of_le_of_lt h2 hm, fun i j => ?_, fun i t j => ?_⟩
    · rw [er]
      exact ((h3 i).mul (Z.ph j)).mono (Nat.mul_le_mul_left _ (by omega))
    · rw [er, Rat.sub_eq_add_neg, Nat.mul_add]
      exact ((h3 i).scale E).add ((h3 t).mul (Z.ph j)).neg
  refine ⟨Z.dh, hh, hl, hi, fun s hs i => ?_, fun s hs i => ?_, fun s hs j => ?_⟩
  · obtain ⟨a, b, h1, h2, a0, h3, h4, h5⟩ := key s hs
    refine sm_of (h3 i) a0 (big1 _ ?_) (big2 _ ?_)
    · rw [Nat.mul_one] at h4; exact Nat.le_trans (Nat.le_mul_of_pos_right _ Z.L0) h4
    · exact Nat.le_trans (Nat.le_mul_of_pos_right _ Z.V0) h5
  · obtain ⟨a, b, h1, h2, a0, h3, h4, h5⟩ := key s hs
    have := (h3 i).mul Z.pl
    rw [show co (DE.dv f h s).1 i / co h m = co (DE.dv f h s).1 i * (1 / co h m) by rw [Rat.div_def, Rat.div_def]; grind]
    rw [Nat.mul_one] at h4
    exact sm_of this (Nat.mul_pos a0 Z.L0) (big1 _ h4) (big2 _ h5)
  · obtain ⟨a, b, a0, h1, h2, h3, h4⟩ := prod s (Nat.le_of_lt hs)
    exact sm_of (h3 _ j) a0 h1 h2
end
end DE

set_option Elab.async false
set_option linter.all false
set_option maxRecDepth 100000
set_option maxHeartbeats 4000000
set_option autoImplicit false
/-! Division by a list that is shortened from the top. -/
namespace DE
open PySem
section
variable {f h : List Rat} {x y : Rat} {n m i j s : Nat}
/-- what is left at work; only the places ahead of those done count -/
def wk (f h : List Rat) (m : Nat) : Nat → List Rat
  | 0 => f
  | s + 1 => row (dnq f h - 1 - s) (-(co (wk f h m s) (dnq f h - 1 - s + m) * (1 / co h m))) (co h) m (wk f h m s)
/-- how often -/
def ow (f h : List Rat) (m s : Nat) : Rat := co (wk f h m s) (dnq f h - 1 - s + m) * (1 / co h m)
/-- those told so far, the lowest first -/
def ql (f h : List Rat) (m s : Nat) : List Rat := (List.range s).map fun i => ow f h m (s - 1 - i)
theorem ql_succ (s : Nat) : ql f h m (s + 1) = ow f h m s :: ql f h m s := by
  rw [ql, List.range_succ_eq_map, List.map_cons, List.map_map]
  congr 1
  refine List.map_congr_left fun i hi => ?_
  show ow f h m (s + 1 - 1 - (i + 1)) = _
  congr 1; omega
theorem wk_len (s : Nat) : (wk f h m s).length = f.length := by
  induction s with
  | zero => rfl
  | succ s ih => rw [wk, len_row, ih]
theorem dnq_len (H : Dh m h) : dnq f h = f.length - m := by unfold dnq; rw [H.len]; omega
theorem wk_co (H : Dh m h) : ∀ s, s ≤ dnq f h → ∀ i, i < f.length - s → co (wk f h m s) i = co (dv f h s).1 i
  | 0, _, i, _ => rfl
  | s + 1, hs, i, hi => by
    have ih := wk_co H s (by omega)
    have e := dnq_len (f := f) H
    have hl := H.len
    have l1 := wk_len (f := f) (h := h) (m := m) s
    have l2 := len_dv1 (f := f) (h := h) s
    have e3 : h.length - 1 = m := by omega
    simp only [wk, dv]
    rw [co_row _ _ (by omega), co_row _ _ (by omega), ih i (by omega), ih _ (by omega), e3]
    congr 1
    by_cases h1 : dnq f h - 1 - s ≤ i ∧ i < dnq f h - 1 - s + m
    · rw [if_pos h1, if_pos ⟨h1.1, by omega⟩]
      congr 1
      rw [Rat.div_def, Rat.div_def]; grind
    · rw [if_neg h1, if_neg (by omega)]
theorem ow_eq (H : Dh m h) (hs : s < dnq f h) : ow f h m s = co (dv f h s).1 (dnq f h - 1 - s + (h.length - 1)) / co h m := by
  have e := dnq_len (f := f) H
  have hl := H.len
  have e3 : h.length - 1 = m := by omega
  rw [ow, wk_co H s (by omega) _ (by omega), e3, Rat.div_def, Rat.div_def]; grind
theorem dv2_co (H : Dh m h) : ∀ s, s ≤ dnq f h → ∀ i, co (dv f h s).2 i = if dnq f h - s ≤ i ∧ i < dnq f h then ow f h m (dnq f h - 1 - i) else 0
  | 0, _, i => by
    simp only [dv]
    rw [co_zeros, if_neg (by omega)]
  | s + 1, hs, i => by
    have ih := dv2_co H s (by omega)
    have hl := H.len
    have hk : dnq f h - 1 - s < (dv f h s).2.length := by rw [len_dv2]; omega
    have e3 : co h (h.length - 1) = co h m := by rw [hl]; rfl
    simp only [dv]
    rw [co_set hk, e3, ← ow_eq H (by omega)]
    by_cases h1 : i = dnq f h - 1 - s
    · rw [if_pos h1, if_pos (by omega)]
      congr 1; omega
    · rw [if_neg h1, ih]
      by_cases h2 : dnq f h - s ≤ i ∧ i < dnq f h
      · rw [if_pos h2, if_pos (by omega)]
      · rw [if_neg h2, if_neg (by omega)]
theorem ql_div (H : Dh m h) : trim (ql f h m (dnq f h)) = divQ f h := trim_eq fun i => by
  rw [ql, co_map, dv2_co H _ (Nat.le_refl _)]
  by_cases h1 : i < dnq f h
  · rw [if_pos h1, if_pos (by omega)]
  · rw [if_neg h1, if_neg (by omega)]
theorem co_take {L : List Rat} (t i : Nat) : co (L.take t) i = if i < t then co L i else 0 := by
  by_cases h : i < t
  · rw [if_pos h]
    simp only [co, List.getD]
    rw [List.getElem?_take_of_lt h]
  · rw [if_neg h]
    exact co_ge (by simp; omega)
theorem wk_rest (H : Dh m h) : trim ((wk f h m (dnq f h)).take m) = divR f h := tr_ext (trim_tr _) (trim_tr _) fun i => by
  have e := dnq_len (f := f) H
  have lR := divR_len (f := f) H.ne H.top
  rw [co_trim, co_take]
  by_cases h1 : i < m
  · rw [if_pos h1]
    by_cases h2 : i < f.length
    · rw [wk_co H _ (Nat.le_refl _) i (by omega), divR, co_trim]
    · rw [co_ge (by rw [wk_len]; omega), co_ge]
      have := trim_len (dv f h (dnq f h)).1
      rw [len_dv1] at this
      unfold divR; omega
  · rw [if_neg h1, co_ge (by rw [H.len] at lR; omega)]
theorem row_zero (k : Nat) (g : Nat → Rat) (c : Nat) (L : List Rat) (hl : k + c ≤ L.length) : row k (-0) g c L = L := list_ext (len_row _ _) fun i => by
  rw [co_row _ _ hl]
  split
  · have : (-0 : Rat) = 0 := rfl
    rw [this]; grind
  · grind
end
end DE

set_option Elab.async false
set_option linter.all false
set_option maxRecDepth 100000
set_option maxHeartbeats 4000000
set_option exponentiation.threshold 200000
set_option autoImplicit false
/-! Digits of sums; what goes along with straight ones. -/
namespace DE
open PySem
section
variable {f g h u s o w : List Rat} {x y c : Rat} {n m N i j q d e t : Nat} {F G K : Rat → Rat}
theorem compP_tr : ∀ g : List Rat, Tr (compP g h)
  | [] => tr_nil
  | a :: g => trim_tr _
theorem deg_vl (hF : Dg e F) : ∀ (d : Nat) (u : List Rat), u.length ≤ d + 1 → Dg (e * d) fun x => vl u (F x)
  | 0, u, hl => by
    match u, hl with
    | [], _ => exact ((dg_const 0).mono (Nat.zero_le _)).congr fun x => rfl
    | [a], _ => exact ((dg_const a).mono (Nat.zero_le _)).congr fun x => by rw [vl_cons, vl_nil]; grind
  | d + 1, u, hl => by
    match u, hl with
    | [], _ => exact ((dg_const 0).mono (Nat.zero_le _)).congr fun x => rfl
    | a :: u, hl =>
      have ih := deg_vl hF d u (by simp at hl; omega)
      have := (hF.mul ih).mono (e := e * (d + 1)) (by rw [Nat.mul_succ]; omega)
      exact (((dg_const a).mono (Nat.zero_le _)).add this).congr fun x => (vl_cons a).symm
theorem vl_top : ∀ (k : Nat) (g : List Rat), g.length = k + 1 → ∀ y, vl g y = co g k * y ^ k + vl (g.take k) y
  | 0, g, hl, y => by
    match g, hl with
    | [a], _ => rw [vl_cons, vl_nil, Rat.pow_zero]; show _ = a * 1 + vl [] y; rw [vl_nil]; grind
  | k + 1, g, hl, y => by
    match g, hl with
    | a :: g, hl =>
      have ih := vl_top k g (by simp at hl; omega) y
      rw [vl_cons, ih, List.take_succ_cons, vl_cons, Rat.pow_succ]
      show _ = co g k * (y ^ k * y) + _
      grind
/-- put together: the first power and what is lower -/
theorem top_low (hF : Dg m F) (k : Nat) (hl : g.length = k + 1 + 1) : ∃ R, Dg (m * k) R ∧ ∀ x, vl g (F x) = co g (k + 1) * F x ^ (k + 1) + R x :=
  ⟨fun x => vl (g.take (k + 1)) (F x), deg_vl hF k _ (by rw [List.length_take]; omega), fun x => vl_top (k + 1) g hl (F x)⟩
theorem gs_more : ∀ (a b : Nat) (e : Nat → List Rat), a ≤ b → (∀ j, a ≤ j → e j = []) → vl (gs h e b) x = vl (gs h e a) x
  | 0, 0, e, _, _ => rfl
  | 0, b + 1, e, _, he => by
    show vl (addP (mulP (gs h _ b) h) (e 0)) x = _
    rw [vl_add, vl_mulP, gs_more 0 b (fun j => e (j + 1)) (by omega) (fun j _ => he _ (by omega)), he 0 (by omega)]
    show vl [] x * _ + vl [] x = vl [] x
    rw [vl_nil]; grind
  | a + 1, 0, e, hb, _ => by omega
  | a + 1, b + 1, e, hb, he => by
    show vl (addP (mulP (gs h _ b) h) (e 0)) x = vl (addP (mulP (gs h _ a) h) (e 0)) x
    rw [vl_add, vl_mulP, vl_add, vl_mulP, gs_more a b (fun j => e (j + 1)) (by omega) fun j hj => he _ (by omega)]
theorem gs_add {a b : Nat → List Rat} : ∀ N, ∀ (a b : Nat → List Rat), vl (gs h (fun j => addP (a j) (b j)) N) x = vl (gs h a N) x + vl (gs h b N) x
  | 0, _, _ => by show vl [] x = vl [] x + vl [] x; rw [vl_nil]; grind
  | N + 1, a, b => by
    show vl (addP (mulP (gs h (fun j => addP (a (j + 1)) (b (j + 1))) N) h) (addP (a 0) (b 0))) x = vl (addP (mulP (gs h (fun j => a (j + 1)) N) h) (a 0)) x + vl (addP (mulP (gs h (fun j => b (j + 1)) N) h) (b 0)) x
    rw [vl_add, vl_mulP, vl_add, vl_add, vl_mulP, vl_add, vl_mulP, gs_add (a := a) (b := b) N (fun j => a (j + 1)) (fun j => b (j + 1))]
    grind
/-- g upon h and w more: its digits -/
theorem dg_more (H : Dh m h) (ht : Tr w) (hv : ∀ x, vl f x = vl g (vl h x) + vl w x) (j : Nat) : dg f h j = addP (trim [co g j]) (dg w h j) := by
  have m0 := H.m0
  have big : w.length ≤ (g.length + w.length) * m := by
    have : (g.length + w.length) * 1 ≤ (g.length + w.length) * m := Nat.mul_le_mul_left _ m0
    omega
  have hv' : ∀ x, vl f x = vl (gs h (fun j => addP (trim [co g j]) (dg w h j)) (g.length + w.length)) x := fun x => by
    rw [gs_add (a := fun j => trim [co g j]) (b := dg w h), hv, ← vl_digits H (g.length + w.length) ht big x, gs_more g.length _ _ (by omega) (fun j hj => by rw [co_ge hj, trim_one0]), ← comp_gs, vl_comp]
  rw [dg_gs H (g.length + w.length) (fun j => trim_tr _) (fun j => Nat.le_trans (len_addP _ _) (by
    have h1 := one_le (co g j)
    have h2 := dg_len H (f := w) j
    omega)) hv' j]
  split
  · rfl
  · rename_i hj
    have : dg w h j = [] := dg_ge H ht (by
      have := nd_le (f := w) H
      omega)
    rw [co_ge (by omega), trim_one0, this]; rfl
theorem flat_more (H : Dh m h) (ht : Tr w) (hv : ∀ x, vl f x = vl g (vl h x) + vl w x) (j : Nat) : (dg f h j).length < 2 ↔ (dg w h j).length < 2 := by
  rw [dg_more H ht hv]
  have key : ∀ i, 1 ≤ i → co (addP (trim [co g j]) (dg w h j)) i = co (dg w h j) i := fun i hi => by
    rw [co_addP, co_trim, co_ge (f := [co g j]) (by simpa using hi), Rat.zero_add]
  constructor
  · intro a
    have := tr_len (dg_tr (f := w) (h := h) j) (n := 1) fun i hi => by rw [← key i hi]; exact co_ge (by omega)
    omega
  · intro a
    have := tr_len (trim_tr (addL (trim [co g j]) (dg w h j))) (n := 1) fun i hi => by
      have e := key i hi
      rw [addP] at e
      rw [e]; exact co_ge (by omega)
    show (trim (addL _ _)).length < 2
    omega
/-- a straight one -/
theorem vl_two (a b : Rat) : vl [a, b] x = a + b * x := by rw [vl_cons, vl_cons, vl_nil]; grind
/-- moved inside -/
theorem fl_inside (H : Dh m h) (ht : Tr f) (hs : s.length = 2) (hs1 : co s 1 ≠ 0) (P : PL m (compP h s)) (hl : Tr w) (hw : ∀ x, vl w x = vl f (vl s x)) : Fl w (nrm (compP h s)) ↔ Fl f h := by
  have N := nrm_nm P
  have m0 := P.n0
  have HN : Dh m (nrm (compP h s)) := ⟨N.len, m0, by rw [N.one]; decide⟩
  have vN : ∀ x, vl h (vl s x) = co (compP h s) m * vl (nrm (compP h s)) x + co (compP h s) 0 := fun x => by rw [← vl_comp, vl_nrm P]
  have es : ∀ x, vl s x = co s 0 + co s 1 * x := fun x => by
    match s, hs with
    | [a, b], _ => exact vl_two a b
  rw [fl_iff HN hl, fl_iff H ht]
  constructor
  · rintro ⟨u, hu⟩
    refine ⟨compP u [-(co (compP h s) 0) / co (compP h s) m, 1 / co (compP h s) m], fun y => ?_⟩
    have ex : vl s ((y - co s 0) / co s 1) = y := by
      rw [es, Rat.mul_comm, Rat.div_mul_cancel hs1]; grind
    have e1 := hu ((y - co s 0) / co s 1)
    rw [hw, ex] at e1
    rw [e1, vl_comp, vl_two]
    congr 1
    have e2 := vN ((y - co s 0) / co s 1)
    rw [ex] at e2
    have nz := P.nz
    have e3 : co (compP h s) m * (1 / co (compP h s) m) = 1 := by rw [Rat.div_def, Rat.one_mul, Rat.mul_inv_cancel _ nz]
    rw [e2]
    generalize vl (nrm (compP h s)) ((y - co s 0) / co s 1) = v at *
    generalize hc : co (compP h s) 0 = c0 at *
    generalize co (compP h s) m = l at *
    have e4 : -c0 / l = -c0 * (1 / l) := by rw [Rat.div_def, Rat.div_def]; grind
    rw [e4]
    grind
  · rintro ⟨u, hu⟩
    exact ⟨compP u [co (compP h s) 0, co (compP h s) m], fun x => by rw [hw, hu, vN, vl_comp, vl_two]; congr 1; grind⟩
/-- put inside something -/
theorem fl_outside (H : Dh m h) (ht : Tr f) (hl : Tr w) (hw : ∀ x, vl w x = vl o (vl f x)) (F : Fl f h) : Fl w h := by
  obtain ⟨u, hu⟩ := (fl_iff H ht).mp F
  exact (fl_iff H hl).mpr ⟨compP o u, fun x => by rw [hw, hu, vl_comp]⟩
theorem fl_straight (H : Dh m h) (ht : Tr f) (hl : Tr w) (ho : o.length = 2) (ho1 : co o 1 ≠ 0) (hw : ∀ x, vl w x = vl o (vl f x)) : Fl w h ↔ Fl f h := by
  constructor
  · intro F
    obtain ⟨u, hu⟩ := (fl_iff H hl).mp F
    have eo : ∀ x, vl o x = co o 0 + co o 1 * x := fun x => by
      match o, ho with
      | [a, b], _ => exact vl_two a b
    refine (fl_iff H ht).mpr ⟨compP [-(co o 0) / co o 1, 1 / co o 1] u, fun x => ?_⟩
    rw [vl_comp, vl_two, ← hu, hw, eo]
    have e3 : co o 1 * (1 / co o 1) = 1 := by rw [Rat.div_def, Rat.one_mul, Rat.mul_inv_cancel _ ho1]
    generalize vl f x = v at *
    generalize co o 0 = c0 at *
    generalize co o 1 = l at *
    have e4 : -c0 / l = -c0 * (1 / l) := by rw [Rat.div_def, Rat.div_def]; grind
    rw [e4]
    grind
  · exact fl_outside H ht hl hw
/-- one number: all digits are flat only at multiples -/
theorem fl_number (H : Dh m h) (ht : Tr w) (hc : c ≠ 0) (j0 : 0 < j) (hl : w.length = j + 1) (F : Fl w h) : j % m = 0 := by
  have m0 := H.m0
  have hu := fl_out H ht F
  have ut : Tr (ou w h) := trim_tr _
  have P : PL m h := ⟨H.len, m0, H.nz⟩
  have dh : Dg m (vl h) := dg_vl (by rw [H.len]; omega)
  generalize ou w h = u at *
  have c1 : ∀ {d : Nat}, Dg d (vl w) → w.length ≤ d + 1 := fun {d} hd => by
    obtain ⟨r, l, v⟩ := hd
    refine tr_len ht fun i hi => ?_
    rw [← vl_ext v]; exact co_ge (by omega)
  by_cases h1 : u.length ≤ 1
  · have := c1 (((deg_vl dh 0 u (by omega)).congr fun x => (hu x).symm))
    rw [Nat.mul_zero] at this; omega
  · obtain ⟨k, hk⟩ : ∃ k, u.length = k + 1 + 1 := ⟨u.length - 2, by omega⟩
    obtain ⟨R, d1, v1⟩ := top_low dh k hk
    have nz : co u (k + 1) ≠ 0 := by
      have := tr_last ut (fun z => by rw [z] at hk; simp at hk)
      rwa [hk] at this
    obtain ⟨PL1, _, _⟩ := cand_vl (f := w) (h := h) (q := k) ht m0 rfl P nz d1 fun x => by rw [hu, v1]
    have := PL1.len
    have e : j = m * (k + 1) := by omega
    rw [e]; exact Nat.mul_mod_right _ _
end
end DE

set_option Elab.async false
set_option linter.all false
set_option maxRecDepth 100000
set_option maxHeartbeats 4000000
set_option exponentiation.threshold 200000
set_option autoImplicit false
/-! Sizes in division, graded: bottoms do not grow. -/
namespace DE
open PySem
section
variable {f g h : List Rat} {x y : Rat} {n m i j k s q D M E N H A a c b μ K : Nat}
theorem Bf_le24 (hi : m ≤ 24) : Bf b m ≤ (24 * b) ^ m := by
  unfold Bf
  rw [Nat.mul_pow, Nat.mul_comm]
  exact Nat.mul_le_mul_right _ (fct_le24 hi)
theorem Bf_up (b0 : 0 < b) (hij : i ≤ j) : ∃ r, 0 < r ∧ Bf b j = Bf b i * r := by
  refine ⟨Bf b (j - i) * ch i (j - i), ?_, ?_⟩
  · refine Nat.pos_of_ne_zero fun z => ?_
    have h1 := Bf_add b i (j - i)
    rw [show i + (j - i) = j by omega, Nat.mul_assoc, z, Nat.mul_zero] at h1
    exact absurd h1 (Nat.pos_iff_ne_zero.mp (Bf_pos b0 j))
  · have h1 := Bf_add b i (j - i)
    rw [show i + (j - i) = j by omega] at h1
    rw [h1]; ac_rfl
theorem Bf_mono (b0 : 0 < b) (hij : i ≤ j) : Bf b i ≤ Bf b j := by
  obtain ⟨r, r0, e⟩ := Bf_up b0 hij
  rw [e]; exact Nat.le_mul_of_pos_right _ r0
/-- a polynomial whose numbers' bottoms grow from the top, at weight n -/
structure Gp (c b μ K n : Nat) (F : Nat → Rat) : Prop where
  at_ : ∀ i, i ≤ n → Iw (c * Bf b i) (μ * K ^ i) (F (n - i))
  top : ∀ a, n < a → F a = 0
abbrev GG : Nat := 2 ^ 25
theorem gg_step {i : Nat} (hi : i ≤ 24) (t : Nat) : t + 2 ^ i * t ≤ t * GG := by
  have : 2 ^ i ≤ 2 ^ 24 := Nat.pow_le_pow_right (by decide) hi
  have h1 : 2 ^ i * t ≤ 2 ^ 24 * t := Nat.mul_le_mul_right t this
  show _ ≤ t * 2 ^ 25
  omega
/-- rest and quotient while dividing -/
theorem Gp.dv (G : Gp c b μ K n (co f)) (Hh : Gp 1 b 1 K m (co h)) (hl : h.length = m + 1) (h1 : co h m = 1) (lf : f.length ≤ n + 1) (n24 : n ≤ 24) (mn : m ≤ n) : ∀ s, s ≤ dnq f h →
    Gp c b (μ * GG ^ s) K n (co (DE.dv f h s).1) ∧ Gp c b (μ * GG ^ s) K (n - m) (co (DE.dv f h s).2)
  | 0, _ => by
    rw [Nat.pow_zero, Nat.mul_one]
    refine ⟨G, ⟨fun i _ => ?_, fun a _ => ?_⟩⟩
    · simp only [DE.dv]; rw [co_zeros]; exact Iw.zero _ _
    · simp only [DE.dv]; exact co_zeros _ _
  | s + 1, hs => by
    obtain ⟨i1, i2⟩ := Gp.dv G Hh hl h1 lf n24 mn s (by omega)
    have dn : dnq f h = f.length - m := by unfold dnq; rw [hl]; omega
    have hk : dnq f h - 1 - s + h.length ≤ (DE.dv f h s).1.length := by rw [len_dv1]; omega
    have hk2 : dnq f h - 1 - s < (DE.dv f h s).2.length := by rw [len_dv2]; omega
    have e3 : h.length - 1 = m := by omega
    have eo : ∀ x : Rat, x / 1 = x := fun x => by rw [Rat.div_def]; grind
    have up : ∀ t : Nat, μ * GG ^ s * t ≤ μ * GG ^ (s + 1) * t := fun t => by
      refine Nat.mul_le_mul_right t (Nat.mul_le_mul_left μ ?_)
      rw [Nat.pow_succ]; exact Nat.le_mul_of_pos_right _ (by decide)
    -- the one that is taken away
    have io : n - m - (dnq f h - 1 - s) ≤ n := by omega
    have ho := i1.at_ (n - m - (dnq f h - 1 - s)) io
    have en : n - (n - m - (dnq f h - 1 - s)) = dnq f h - 1 - s + m := by omega
    rw [en] at ho
    refine ⟨⟨fun i hi => ?_, fun a ha => ?_⟩, ⟨fun i hi => ?_, fun a ha => ?_⟩⟩
    · simp only [DE.dv]
      rw [co_row _ _ hk, e3, h1, eo]
      have own := i1.at_ i hi
      split
      · rename_i hr
        have hh := Hh.at_ (m - (n - i - (dnq f h - 1 - s))) (by omega)
        have eh : m - (m - (n - i - (dnq f h - 1 - s))) = n - i - (dnq f h - 1 - s) := by omega
        rw [eh] at hh
        have p := iw_mul_at ho hh
        have ei : n - m - (dnq f h - 1 - s) + (m - (n - i - (dnq f h - 1 - s))) = i := by omega
        rw [ei, Nat.mul_one] at p
        rw [Rat.neg_mul]
        refine (own.add p.neg).mono ?_
        have ek : μ * GG ^ s * K ^ (n - m - (dnq f h - 1 - s)) * (1 * K ^ (m - (n - i - (dnq f h - 1 - s)))) = μ * GG ^ s * K ^ i := by
          rw [Nat.one_mul, Nat.mul_assoc, ← Nat.pow_add, ei]
        rw [ek]
        have := gg_step (i := i) (by omega) (μ * GG ^ s * K ^ i)
        refine Nat.le_trans this (Nat.le_of_eq ?_)
        rw [Nat.pow_succ]; ac_rfl
      · rw [Rat.add_zero]
        exact own.mono (up _)
    · simp only [DE.dv]
      rw [co_row _ _ hk, if_neg (by omega), Rat.add_zero]
      exact i1.top a ha
    · simp only [DE.dv]
      rw [co_set hk2, e3, h1, eo]
      split
      · rename_i hr
        have : i = n - m - (dnq f h - 1 - s) := by omega
        rw [this]
        exact ho.mono (up _)
      · exact (i2.at_ i hi).mono (up _)
    · simp only [DE.dv]
      rw [co_set hk2, if_neg (by omega)]
      exact i2.top a ha
theorem co_divQ (i : Nat) : co (divQ f h) i = co (DE.dv f h (dnq f h)).2 i := by rw [divQ, co_trim]
theorem co_divR (i : Nat) : co (divR f h) i = co (DE.dv f h (dnq f h)).1 i := by rw [divR, co_trim]
theorem Gp.up {μ' : Nat} {F : Nat → Rat} (G : Gp c b μ K n F) (h : μ ≤ μ') : Gp c b μ' K n F := ⟨fun i hi => (G.at_ i hi).mono (Nat.mul_le_mul_right _ h), G.top⟩
theorem Gp.congr {F F' : Nat → Rat} (G : Gp c b μ K n F) (h : ∀ i, F' i = F i) : Gp c b μ K n F' := ⟨fun i hi => by rw [h]; exact G.at_ i hi, fun a ha => by rw [h]; exact G.top a ha⟩
/-- after j divisions -/
theorem Gp.qs (G : Gp c b μ K n (co f)) (Hh : Gp 1 b 1 K m (co h)) (H : Dh m h) (h1 : co h m = 1) (ht : Tr f) (n24 : n ≤ 24) (lf : f.length ≤ n + 1) : ∀ j, j * m ≤ n → Gp c b (μ * (GG ^ 25) ^ j) K (n - j * m) (co (DE.qs f h j))
  | 0, _ => by
    rw [Nat.pow_zero, Nat.mul_one, Nat.zero_mul, Nat.sub_zero]; exact G
  | j + 1, hj => by
    rw [Nat.succ_mul] at hj
    have ih := Gp.qs G Hh H h1 ht n24 lf j (by omega)
    have lq := qs_len H ht j
    have d := (ih.dv Hh H.len h1 (by omega) (by omega) (by omega) (dnq (DE.qs f h j) h) (Nat.le_refl _)).2
    have dn : dnq (DE.qs f h j) h ≤ 25 := by unfold dnq; rw [H.len]; omega
    have e : n - (j + 1) * m = n - j * m - m := by rw [Nat.succ_mul]; omega
    rw [e]
    refine (d.congr fun i => co_divQ i).up ?_
    have e2 : (GG ^ 25) ^ (j + 1) = (GG ^ 25) ^ j * GG ^ 25 := Nat.pow_succ ..
    rw [e2, ← Nat.mul_assoc]
    exact Nat.mul_le_mul_left _ (Nat.pow_le_pow_right (by decide) dn)
/-- any number by one bottom -/
theorem Gp.one {F : Nat → Rat} (G : Gp c b μ K n F) (b0 : 0 < b) (K0 : 0 < K) (N : Nat) (hN : n ≤ N) (i : Nat) : Iw (c * Bf b N) (μ * K ^ N * Bf b N) (F i) := by
  by_cases hi : i ≤ n
  · have g := G.at_ (n - i) (by omega)
    rw [show n - (n - i) = i by omega] at g
    obtain ⟨r, r0, e⟩ := Bf_up b0 (by omega : n - i ≤ N)
    refine iw_up g r0 (by rw [e]; ac_rfl) ?_
    have r1 : r ≤ Bf b N := by rw [e]; exact Nat.le_mul_of_pos_left _ (Bf_pos b0 _)
    refine Nat.mul_le_mul (Nat.mul_le_mul_left _ (Nat.pow_le_pow_right K0 (by omega))) r1
  · rw [G.top i (by omega)]; exact Iw.zero _ _
/-- all that a division of weight n asks for -/
theorem Gp.sz (G : Gp c b μ K n (co f)) (Hh : Gp 1 b 1 K m (co h)) (H : Dh m h) (h1 : co h m = 1) (b0 : 0 < b) (c0 : 0 < c) (K0 : 0 < K) (lf : f.length ≤ n + 1) (n24 : n ≤ 24) (mn : m ≤ n) {B : Nat} (hB : c * Bf b n < 2 ^ 4480) (hT : μ * GG ^ 26 * K ^ n * Bf b n ≤ 2 ^ B) (hB2 : B < 100000) (hs : ∀ i, Sm4 (co h i)) : Sz m f h := by
  have hl := H.len
  have eo : ∀ x : Rat, x / 1 = x := fun x => by rw [Rat.div_def]; grind
  have big : ∀ {N : Nat}, N ≤ 2 ^ B → N < 2 ^ 100000 := fun h => Nat.lt_of_le_of_lt h (Nat.pow_lt_pow_right (by decide) hB2)
  have dn : dnq f h ≤ 25 := by unfold dnq; rw [hl]; omega
  have pos : 0 < c * Bf b n := Nat.mul_pos c0 (Bf_pos b0 n)
  have gs : ∀ s, s ≤ dnq f h → μ * GG ^ s * K ^ n * Bf b n ≤ 2 ^ B := fun s hs => Nat.le_trans (Nat.mul_le_mul_right _ (Nat.mul_le_mul_right _ (Nat.mul_le_mul_left _ (Nat.pow_le_pow_right (by decide) (by omega))))) hT
  have key : ∀ s, s ≤ dnq f h → ∀ i, Sm4 (co (DE.dv f h s).1 i) := fun s hs i => sm_of (((G.dv Hh hl h1 lf n24 mn s hs).1).one b0 K0 n (Nat.le_refl _) i) pos hB (big (gs s hs))
  have one1 : Hb 1 (1 : Rat) := ⟨by decide +kernel, by decide +kernel⟩
  have o1 : (1 : Rat) / 1 = 1 := by decide +kernel
  refine ⟨H, hs, by rw [h1]; exact one1.mono (by decide), ?_, key, fun s hs i => by rw [h1, eo]; exact key s hs i, fun s hs j => ?_⟩
  · rw [h1, o1]
    exact ⟨Nat.lt_of_le_of_lt (by decide +kernel : (1 : Rat).num.natAbs ≤ 1) (Nat.one_lt_two_pow (by decide)), Nat.lt_of_le_of_lt (by decide +kernel : (1 : Rat).den ≤ 1) (Nat.one_lt_two_pow (by decide))⟩
  · rw [h1, eo]
    have g := (G.dv Hh hl h1 lf n24 mn s (Nat.le_of_lt hs)).1
    have dq : dnq f h = f.length - m := by unfold dnq; rw [hl]; omega
    by_cases hj : j ≤ m
    · have a1 := g.at_ (n - m - (dnq f h - 1 - s)) (by omega)
      rw [show n - (n - m - (dnq f h - 1 - s)) = dnq f h - 1 - s + m by omega] at a1
      have a2 := Hh.at_ (m - j) (by omega)
      rw [show m - (m - j) = j by omega] at a2
      have p := iw_mul_at a1 a2
      have le : n - m - (dnq f h - 1 - s) + (m - j) ≤ n := by omega
      rw [Nat.mul_one] at p
      generalize hI : n - m - (dnq f h - 1 - s) + (m - j) = I at *
      have e : 2 ^ I * (μ * GG ^ s * K ^ (n - m - (dnq f h - 1 - s)) * (1 * K ^ (m - j))) = 2 ^ I * (μ * GG ^ s) * K ^ I := by
        rw [Nat.one_mul, Nat.mul_assoc (μ * GG ^ s), ← Nat.pow_add, hI]; generalize GG ^ s = t; generalize K ^ I = u; ac_rfl
      rw [e] at p
      have bI : c * Bf b I < 2 ^ 4480 := Nat.lt_of_le_of_lt (Nat.mul_le_mul_left c (Bf_mono b0 le)) hB
      refine sm_of p (Nat.mul_pos c0 (Bf_pos b0 I)) bI (big (Nat.le_trans ?_ hT))
      have t1 : 2 ^ I * (μ * GG ^ s) ≤ μ * GG ^ 26 := by
        have q1 : 2 ^ I ≤ GG := Nat.pow_le_pow_right (by decide) (by omega)
        have q2 : GG * GG ^ s ≤ GG ^ 26 := by
          have : GG * GG ^ s = GG ^ (s + 1) := by rw [Nat.pow_succ, Nat.mul_comm]
          rw [this]; exact Nat.pow_le_pow_right (by decide) (by omega)
        calc 2 ^ I * (μ * GG ^ s) ≤ GG * (μ * GG ^ s) := Nat.mul_le_mul_right _ q1
          _ = μ * (GG * GG ^ s) := by ac_rfl
          _ ≤ μ * GG ^ 26 := Nat.mul_le_mul_left _ q2
      refine Nat.le_trans (Nat.mul_le_mul t1 (Nat.pow_le_pow_right K0 le)) ?_
      exact Nat.le_mul_of_pos_right _ (Bf_pos b0 n)
    · have : co h j = 0 := co_ge (by omega)
      rw [this, Rat.mul_zero]
      exact ⟨Nat.lt_of_le_of_lt (by decide +kernel : (0 : Rat).num.natAbs ≤ 0) (Nat.two_pow_pos _), Nat.lt_of_le_of_lt (by decide +kernel : (0 : Rat).den ≤ 1) (Nat.one_lt_two_pow (by decide))⟩
/-- the whole run -/
theorem Gp.run (G : Gp c b μ K n (co f)) (Hh : Gp 1 b 1 K m (co h)) (H : Dh m h) (h1 : co h m = 1) (b0 : 0 < b) (c0 : 0 < c) (K0 : 0 < K) (ht : Tr f) (lf : f.length ≤ n + 1) (n24 : n ≤ 24) (mn : m ≤ n) {B : Nat} (hB : c * Bf b n < 2 ^ 4480) (hT : μ * GG ^ 700 * K ^ n * Bf b n ≤ 2 ^ B) (hB2 : B < 100000) (hs : ∀ i, Sm4 (co h i)) (j : Nat) : Sz m (DE.qs f h j) h := by
  have m0 := H.m0
  -- small weights are raised to m
  by_cases hj : j * m + m ≤ n
  · have g := G.qs Hh H h1 ht n24 lf j (by omega)
    have lq := qs_len H ht j
    have jn : j ≤ 24 := by
      have : j * 1 ≤ j * m := Nat.mul_le_mul_left j m0
      omega
    refine g.sz Hh H h1 b0 c0 K0 (by omega) (by omega) (by omega) (B := B) (Nat.lt_of_le_of_lt (Nat.mul_le_mul_left c (Bf_mono b0 (by omega))) hB) (Nat.le_trans ?_ hT) hB2 hs
    refine Nat.mul_le_mul (Nat.mul_le_mul ?_ (Nat.pow_le_pow_right K0 (by omega))) (Bf_mono b0 (by omega))
    rw [Nat.mul_assoc, ← Nat.pow_mul, ← Nat.pow_add]
    exact Nat.mul_le_mul_left _ (Nat.pow_le_pow_right (by decide) (by omega))
  · -- nothing is divided any more
    have lq := qs_len H ht j
    have hl := H.len
    have dq : dnq (DE.qs f h j) h = 0 := by unfold dnq; rw [hl]; omega
    have eo : ∀ x : Rat, x / 1 = x := fun x => by rw [Rat.div_def]; grind
    have one1 : Hb 1 (1 : Rat) := ⟨by decide +kernel, by decide +kernel⟩
    have o1 : (1 : Rat) / 1 = 1 := by decide +kernel
    have key : ∀ i, Sm4 (co (DE.qs f h j) i) := fun i => by
      by_cases hj2 : j * m ≤ n
      · have g := G.qs Hh H h1 ht n24 lf j hj2
        have jn : j ≤ 24 := by
          have : j * 1 ≤ j * m := Nat.mul_le_mul_left j m0
          omega
        refine sm_of (g.one b0 K0 n (by omega) i) (Nat.mul_pos c0 (Bf_pos b0 n)) hB (Nat.lt_of_le_of_lt (Nat.le_trans ?_ hT) (Nat.pow_lt_pow_right (by decide) hB2))
        refine Nat.mul_le_mul_right _ (Nat.mul_le_mul_right _ ?_)
        rw [← Nat.pow_mul]
        exact Nat.mul_le_mul_left _ (Nat.pow_le_pow_right (by decide) (by omega))
      · rw [co_ge (by omega)]
        exact ⟨Nat.lt_of_le_of_lt (by decide +kernel : (0 : Rat).num.natAbs ≤ 0) (Nat.two_pow_pos _), Nat.lt_of_le_of_lt (by decide +kernel : (0 : Rat).den ≤ 1) (Nat.one_lt_two_pow (by decide))⟩
    refine ⟨H, hs, by rw [h1]; exact one1.mono (by decide), ?_, fun s hs' i => ?_, fun s hs' i => ?_, fun s hs' j => ?_⟩
    · rw [h1, o1]
      exact ⟨Nat.lt_of_le_of_lt (by decide +kernel : (1 : Rat).num.natAbs ≤ 1) (Nat.one_lt_two_pow (by decide)), Nat.lt_of_le_of_lt (by decide +kernel : (1 : Rat).den ≤ 1) (Nat.one_lt_two_pow (by decide))⟩
    · have : s = 0 := by omega
      subst this; exact key i
    · have : s = 0 := by omega
      subst this; rw [h1, eo]; exact key i
    · omega
end
end DE

set_option Elab.async false
set_option linter.all false
set_option maxRecDepth 100000
set_option maxHeartbeats 4000000
set_option exponentiation.threshold 200000
set_option autoImplicit false
/-! Every candidate may be divided by, to degree 24. -/
namespace DE
open PySem
section
variable {f g h : List Rat} {x y : Rat} {n m i j k s q D M E N H A a c b μ K : Nat}
theorem gp_f (hI : ∀ i, Iw D M (co f i)) (hl : f.length ≤ n + 1) (n24 : n ≤ 24) (b0 : 0 < b) (hK : 24 * b ≤ K) : Gp D b M K n (co f) := by
  refine ⟨fun i hi => ?_, fun a ha => co_ge (by omega)⟩
  refine ((hI (n - i)).scale (Bf b i)).mono (Nat.mul_le_mul_left _ ?_)
  exact Nat.le_trans (Bf_le24 (by omega)) (Nat.pow_le_pow_left hK i)
theorem gp_cand (P : PL n f) (H0 : 0 < H) (hH : ∀ i, Iw H (A * H) (co (fl f) i)) (m0 : 0 < m) (q0 : 0 < q) (m24 : m ≤ 24) : Gp 1 (H * q) 1 ((A + 1) * (24 * (H * q))) m (co (cand f m q)) := by
  have N := cand_nm (f := f) (q := q) m0
  refine ⟨fun i hi => ?_, fun a ha => N.top a ha⟩
  by_cases him : i = m
  · rw [him, Nat.sub_self, N.zero]; exact Iw.zero _ _
  · have e := cand_rv (f := f) (q := q) m0 (i := i) (by omega)
    rw [rv, if_pos (by omega)] at e
    rw [e]
    have h1 := rootH_iw q0 (fl_zero P) hH i i (Nat.le_refl _)
    have ew : WnH H q i = 1 * Bf (H * q) i := by unfold WnH Bf; rw [Nat.one_mul]
    rw [ew] at h1
    refine h1.mono ?_
    rw [Nat.one_mul, Nat.one_mul, Nat.mul_pow]
    exact Nat.mul_le_mul_left _ (Bf_le24 (by omega))
theorem bf_pow {e : Nat} (hb : b ≤ 2 ^ e) (n24 : n ≤ 24) : Bf b n ≤ 2 ^ (24 * (e + 5)) := by
  unfold Bf
  have a1 : b ^ n ≤ 2 ^ (24 * e) := by
    refine Nat.le_trans (Nat.pow_le_pow_left hb n) ?_
    rw [← Nat.pow_mul, Nat.mul_comm]
    exact Nat.pow_le_pow_right (by decide) (Nat.mul_le_mul_right e n24)
  have a2 : fct n ≤ 2 ^ (24 * 5) := by
    refine Nat.le_trans (fct_le24 n24) (Nat.le_trans (Nat.pow_le_pow_left (by decide : 24 ≤ 2 ^ 5) n) ?_)
    rw [← Nat.pow_mul, Nat.mul_comm]
    exact Nat.pow_le_pow_right (by decide) (Nat.mul_le_mul_right 5 n24)
  have := Nat.mul_le_mul a1 a2
  rw [← Nat.pow_add] at this
  exact Nat.le_trans this (Nat.pow_le_pow_right (by decide) (by omega))
/-- every run by a candidate has small numbers -/
theorem run_all (P : PL n f) (ht : Tr f) (D0 : 0 < D) (hI : ∀ i, Iw D M (co f i)) (hD : D ≤ 2 ^ 80) (hM : M ≤ 2 ^ 80) (H0 : 0 < H) (hH : ∀ i, Iw H (A * H) (co (fl f) i)) (hHb : H ≤ 2 ^ 80) (hAb : A ≤ 2 ^ 80) (e : m * q = n) (m0 : 0 < m) (q0 : 0 < q) (n24 : n ≤ 24) (j : Nat) : Sz m (DE.qs f (cand f m q) j) (cand f m q) := by
  have mn : m ≤ n := by rw [← e]; exact Nat.le_mul_of_pos_right _ q0
  have qn : q ≤ n := by rw [← e]; exact Nat.le_mul_of_pos_left _ m0
  have N := cand_nm (f := f) (q := q) m0
  have hb : H * q ≤ 2 ^ 85 := by
    have := Nat.mul_le_mul hHb (by omega : q ≤ 2 ^ 5)
    rwa [← Nat.pow_add] at this
  have b0 : 0 < H * q := Nat.mul_pos H0 q0
  have hK : (A + 1) * (24 * (H * q)) ≤ 2 ^ 171 := by
    have := Nat.mul_le_mul (by omega : A + 1 ≤ 2 ^ 81) (Nat.mul_le_mul (by decide : 24 ≤ 2 ^ 5) hb)
    rwa [← Nat.pow_add, ← Nat.pow_add] at this
  have K0 : 0 < (A + 1) * (24 * (H * q)) := Nat.mul_pos (by omega) (Nat.mul_pos (by decide) b0)
  have G1 := gp_f (b := H * q) (K := (A + 1) * (24 * (H * q))) hI (by rw [P.len]; exact Nat.le_refl _) n24 b0 (Nat.le_mul_of_pos_left _ (by omega))
  have G2 := gp_cand (m := m) (q := q) P H0 hH m0 q0 (by omega)
  have bf := bf_pow (n := n) hb n24
  have kn : ((A + 1) * (24 * (H * q))) ^ n ≤ 2 ^ (171 * 24) := by
    refine Nat.le_trans (Nat.pow_le_pow_left hK n) ?_
    rw [← Nat.pow_mul]
    exact Nat.pow_le_pow_right (by decide) (Nat.mul_le_mul_left 171 n24)
  have hBD : D * Bf (H * q) n < 2 ^ 4480 := by
    have := Nat.mul_le_mul hD bf
    rw [← Nat.pow_add] at this
    exact Nat.lt_of_le_of_lt this (Nat.pow_lt_pow_right (by decide) (by decide))
  have gg : GG ^ 700 ≤ 2 ^ 17500 := by
    show (2 ^ 25) ^ 700 ≤ _
    rw [← Nat.pow_mul]; exact Nat.pow_le_pow_right (by decide) (by decide)
  have hT : M * GG ^ 700 * ((A + 1) * (24 * (H * q))) ^ n * Bf (H * q) n ≤ 2 ^ 24000 := by
    have := Nat.mul_le_mul (Nat.mul_le_mul (Nat.mul_le_mul hM gg) kn) bf
    rw [← Nat.pow_add, ← Nat.pow_add, ← Nat.pow_add] at this
    exact Nat.le_trans this (Nat.pow_le_pow_right (by decide) (by decide))
  refine G1.run G2 ⟨N.len, m0, by rw [N.one]; decide⟩ N.one b0 D0 K0 ht (by rw [P.len]; exact Nat.le_refl _) n24 mn hBD hT (by decide) (fun i => ?_) j
  refine sm_of (G2.one b0 K0 n mn i) (by rw [Nat.one_mul]; exact Bf_pos b0 n) ?_ ?_
  · rw [Nat.one_mul]
    exact Nat.lt_of_le_of_lt bf (Nat.pow_lt_pow_right (by decide) (by decide))
  · rw [Nat.one_mul]
    have := Nat.mul_le_mul kn bf
    rw [← Nat.pow_add] at this
    exact Nat.lt_of_le_of_lt this (Nat.pow_lt_pow_right (by decide) (by decide))
/-- a candidate's numbers may be shown -/
theorem cand_nrm1 (P : PL n f) : cand f n 1 = nrm f := by
  have N := nrm_nm P
  refine ((low_iff P N (by rw [Nat.mul_one])).mp ?_).symm
  refine Nat.le_trans (tr_len restP_tr (n := 0) fun i _ => ?_) (by omega)
  rw [restP, co_subP]
  have : co (pP (nrm f) 1) i = co (nrm f) i := vl_ext (fun x => by rw [vl_pP, Rat.pow_succ, Rat.pow_zero]; grind) i
  rw [this]; grind
theorem cand_hb (P : PL n f) (H0 : 0 < H) (hH : ∀ i, Iw H (A * H) (co (fl f) i)) (hHb : H ≤ 2 ^ 80) (hAb : A < 2 ^ 80) (e : m * q = n) (m0 : 0 < m) (q0 : 0 < q) (n24 : n ≤ 24) (i : Nat) : Hb 1900 (co (cand f m q) i) := by
  have mn : m ≤ n := by rw [← e]; exact Nat.le_mul_of_pos_right _ q0
  have qn : q ≤ n := by rw [← e]; exact Nat.le_mul_of_pos_left _ m0
  by_cases q1 : q = 1
  · subst q1
    have em : m = n := by omega
    subst em
    rw [cand_nrm1 P]
    have key : Iw H (A * H) (co (nrm f) i) := by
      by_cases hi : i ≤ m
      · have := hH (m - i)
        rw [co_fl P, rv, if_pos (by omega), show m - (m - i) = i by omega] at this
        exact this
      · rw [co_ge (by rw [len_nrm P]; omega)]; exact Iw.zero _ _
    refine key.hb H0 ?_ ?_
    · have := Nat.mul_le_mul (Nat.le_of_lt hAb) hHb
      rw [← Nat.pow_add] at this
      exact Nat.lt_of_le_of_lt this (Nat.pow_lt_pow_right (by decide) (by decide))
    · exact Nat.lt_of_le_of_lt hHb (Nat.pow_lt_pow_right (by decide) (by decide))
  · have m12 : m ≤ 12 := by
      have := Nat.mul_le_mul_left m (by omega : 2 ≤ q)
      omega
    have N := cand_nm (f := f) (q := q) m0
    have b85 : H * q ≤ 2 ^ 85 := by
      have := Nat.mul_le_mul hHb (by omega : q ≤ 2 ^ 5)
      rwa [← Nat.pow_add] at this
    have w : ∀ t, t ≤ 11 → WnH H q t ≤ 2 ^ 979 := fun t ht => by
      unfold WnH
      have a1 : (H * q) ^ t ≤ 2 ^ (85 * 11) := by
        refine Nat.le_trans (Nat.pow_le_pow_left b85 t) ?_
        rw [← Nat.pow_mul]
        exact Nat.pow_le_pow_right (by decide) (Nat.mul_le_mul_left 85 ht)
      have a2 : fct t ≤ 2 ^ (4 * 11) := by
        refine Nat.le_trans (fct_le (by omega)) (Nat.le_trans (Nat.pow_le_pow_left (by decide : 16 ≤ 2 ^ 4) t) ?_)
        rw [← Nat.pow_mul]
        exact Nat.pow_le_pow_right (by decide) (Nat.mul_le_mul_left 4 ht)
      have := Nat.mul_le_mul a1 a2
      rw [← Nat.pow_add] at this
      exact Nat.le_trans this (Nat.pow_le_pow_right (by decide) (by decide))
    have key : ∃ t, t ≤ 11 ∧ Iw (WnH H q t) ((A + 1) ^ t * WnH H q t) (co (cand f m q) i) := by
      by_cases hi : i < m + 1
      · by_cases h0 : i = 0
        · exact ⟨0, by omega, by rw [h0, N.zero]; exact Iw.zero _ _⟩
        · have e1 := cand_rv (f := f) (q := q) m0 (i := m - i) (by omega)
          rw [rv, if_pos (by omega), show m - (m - i) = i by omega] at e1
          exact ⟨m - i, by omega, by rw [e1]; exact rootH_iw q0 (fl_zero P) hH _ _ (Nat.le_refl _)⟩
      · exact ⟨0, by omega, by rw [N.top i (by omega)]; exact Iw.zero _ _⟩
    obtain ⟨t, ht, k⟩ := key
    have a3 : (A + 1) ^ t ≤ 2 ^ (80 * 11) := by
      refine Nat.le_trans (Nat.pow_le_pow_left (by omega : A + 1 ≤ 2 ^ 80) t) ?_
      rw [← Nat.pow_mul]
      exact Nat.pow_le_pow_right (by decide) (Nat.mul_le_mul_left 80 ht)
    refine k.hb (WnH_pos H0 q0 t) ?_ ?_
    · have := Nat.mul_le_mul a3 (w t ht)
      rw [← Nat.pow_add] at this
      exact Nat.lt_of_le_of_lt this (Nat.pow_lt_pow_right (by decide) (by decide))
    · exact Nat.lt_of_le_of_lt (w t ht) (Nat.pow_lt_pow_right (by decide) (by decide))
end
end DE

set_option Elab.async false
set_option linter.all false
set_option maxRecDepth 100000
set_option maxHeartbeats 4000000
set_option exponentiation.threshold 200000
set_option autoImplicit false
/-! Digits of sums, of products with the other one, of what is put within; digits of digits; sizes by any other one. -/
namespace DE
open PySem
section
variable {f g h u p q w I F : List Rat} {x y : Rat} {n m i j k s a b d D M E N T Q : Nat}
/-- what is put together by others put together -/
theorem gs_put (hI : ∀ x, vl I x = vl u (vl p x)) : ∀ (N : Nat) (e w : Nat → List Rat), (∀ j x, vl (e j) x = vl (w j) (vl p x)) → ∀ x, vl (gs I e N) x = vl (gs u w N) (vl p x)
  | 0, _, _, _, _ => rfl
  | N + 1, e, w, h, x => by
    show vl (addP (mulP (gs I (fun j => e (j + 1)) N) I) (e 0)) x = vl (addP (mulP (gs u (fun j => w (j + 1)) N) u) (w 0)) (vl p x)
    rw [vl_add, vl_mulP, vl_add, vl_mulP, gs_put hI N _ (fun j => w (j + 1)) (fun j => h (j + 1)), h 0, hI]
theorem len_le (H : Dh m h) (hl : f.length ≤ N) : f.length ≤ N * m := Nat.le_trans hl (Nat.le_mul_of_pos_right _ H.m0)
theorem dg_sum (H : Dh m h) (hf : Tr f) (hw : Tr w) (hv : ∀ x, vl g x = vl f x + vl w x) (j : Nat) : dg g h j = addP (dg f h j) (dg w h j) := by
  have l1 : f.length ≤ max f.length w.length := Nat.le_max_left ..
  have l2 : w.length ≤ max f.length w.length := Nat.le_max_right ..
  generalize max f.length w.length = N at l1 l2
  have key := dg_gs H N (f := g) (e := fun j => addP (dg f h j) (dg w h j)) (fun _ => trim_tr _) (fun j => Nat.le_trans (len_addP _ _) (Nat.max_le.mpr ⟨dg_len H j, dg_len H j⟩)) (fun x => by
    rw [hv, gs_add (a := fun _ => []) (b := fun _ => []) N, vl_digits H N hf (len_le H l1), vl_digits H N hw (len_le H l2)]) j
  rw [key]
  split
  · rfl
  · rw [dg_ge H hf (by have := nd_le (f := f) H; omega), dg_ge H hw (by have := nd_le (f := w) H; omega)]; rfl
theorem dg_mul (H : Dh m h) (hf : Tr f) (hv : ∀ x, vl g x = vl f x * vl h x) (j : Nat) : dg g h j = if j = 0 then [] else dg f h (j - 1) := by
  have key := dg_gs H (f.length + 1) (f := g) (e := fun j => if j = 0 then [] else dg f h (j - 1)) (fun j => by
    by_cases z : j = 0
    · simp only [if_pos z]; exact tr_nil
    · simp only [if_neg z]; exact dg_tr _) (fun j => by
    by_cases z : j = 0
    · simp only [if_pos z]; exact Nat.zero_le _
    · simp only [if_neg z]; exact dg_len H _) (fun x => by
    show _ = vl (addP (mulP (gs h (fun j => if j + 1 = 0 then [] else dg f h (j + 1 - 1)) f.length) h) (if 0 = 0 then [] else dg f h (0 - 1))) x
    rw [if_pos rfl, vl_add, vl_mulP, vl_nil, hv, vl_digits H f.length hf (len_le H (Nat.le_refl _))]
    have : (fun j => if j + 1 = 0 then [] else dg f h (j + 1 - 1)) = dg f h := funext fun j => by rw [if_neg (by omega)]; rfl
    rw [this]; grind) j
  rw [key]
  split
  · rfl
  · have hn := nd_le (f := f) H
    rw [if_neg (by omega), dg_ge H hf (by omega)]
theorem gs_self (H : Dh m h) (hf : Tr f) : gs h (dg f h) (nd f h) = f := tr_vl (gs_tr _ _ _) hf fun x => by
  have hl : f.length ≤ nd f h * m := Classical.byContradiction fun z => by
    have := (nd_iff (f := f) H (nd f h)).mpr (by omega); omega
  exact (vl_digits H _ hf hl x).symm
theorem dg_self (H : Dh m h) {e : Nat → List Rat} (ht : ∀ j, Tr (e j)) (hl : ∀ j, (e j).length ≤ m) (N j : Nat) : dg (gs h e N) h j = if j < N then e j else [] := dg_gs H N ht hl (fun _ => rfl) j
theorem qs_gs (H : Dh m h) (hf : Tr f) (j : Nat) : addP (mulP (qs f h (j + 1)) h) (dg f h j) = qs f h j := tr_vl (trim_tr _) (qs_tr hf j) fun x => by
  rw [vl_add, vl_mulP]
  exact (vl_div (f := qs f h j) H.ne H.top).symm
/-! ### what is put within -/
theorem comp_len (hg : g.length ≤ a + 1) (hh : h.length ≤ d + 1) : (compP g h).length ≤ d * a + 1 := by
  obtain ⟨r, h1, h2⟩ := deg_vl (dg_vl hh) a g hg
  exact tr_len (compP_tr g) fun i hi => by
    rw [vl_ext (f := compP g h) (g := r) (fun x => by rw [vl_comp, h2]) i]
    exact co_ge (by omega)
theorem PL.tr (P : PL n f) : Tr f := fun z => by
  rw [List.getLast?_eq_getElem?, P.len, Nat.add_sub_cancel, co_lt (by rw [P.len]; omega)] at z
  exact P.nz (Option.some.inj z)
theorem PL.dh (P : PL n f) : Dh n f := ⟨P.len, P.n0, P.nz⟩
theorem Dh.pl (H : Dh n f) : PL n f := ⟨H.len, H.m0, H.nz⟩
theorem comp_pl (G : PL a g) (P : PL d h) : PL (d * a) (compP g h) ∧ co (compP g h) (d * a) = co g a * co h d ^ a := by
  obtain ⟨k, rfl⟩ : ∃ k, a = k + 1 := ⟨a - 1, by have := G.n0; omega⟩
  obtain ⟨R, h1, h2⟩ := top_low (g := g) (dg_vl (Nat.le_of_eq P.len)) k G.len
  obtain ⟨c1, c2, _⟩ := cand_vl (f := compP g h) (compP_tr g) P.n0 rfl P G.nz h1 (fun x => by rw [vl_comp, h2])
  exact ⟨c1, c2⟩
theorem dg_within (H : Dh m h) (hf : Tr f) (P : PL d q) (hg : ∀ x, vl g x = vl f (vl q x)) (j : Nat) : dg g (compP h q) j = compP (dg f h j) q := by
  have H2 := (comp_pl H.pl P).1.dh
  have key := dg_gs H2 f.length (f := g) (e := fun j => compP (dg f h j) q) (fun j => compP_tr _) (fun j => by
    have l := dg_len (f := f) H j
    have m0 := H.m0
    have := comp_len (g := dg f h j) (a := m - 1) (by omega) (Nat.le_of_eq P.len)
    have e : d * m = d * (m - 1) + d := by rw [← Nat.mul_succ]; congr 1; omega
    have := P.n0
    omega) (fun x => by
    rw [hg, vl_digits H f.length hf (len_le H (Nat.le_refl _))]
    exact (gs_put (fun x => vl_comp) _ _ _ (fun j x => vl_comp) x).symm) j
  rw [key]
  split
  · rfl
  · rw [dg_ge H hf (by have := nd_le (f := f) H; omega)]; rfl
/-- a polynomial is one of p exactly if its digits by one of p are -/
theorem fl_two (U : PL a u) (P : PL b p) (hF : Tr F) : Fl F p ↔ ∀ j, Fl (dg F (compP u p) j) p := by
  have H2 := (comp_pl U P).1.dh
  constructor
  · intro K j
    obtain ⟨v0, hv0⟩ := (fl_iff P.dh hF).mp K
    have hv : ∀ x, vl F x = vl (trim v0) (vl p x) := fun x => by rw [vl_trim]; exact hv0 x
    have hd := dg_within (f := trim v0) U.dh (trim_tr _) P hv j
    rw [hd]
    exact (fl_iff P.dh (compP_tr _)).mpr ⟨_, fun x => vl_comp⟩
  · intro K
    refine (fl_iff P.dh hF).mpr ⟨gs u (fun j => ou (dg F (compP u p) j) p) F.length, fun x => ?_⟩
    rw [vl_digits H2 F.length hF (len_le H2 (Nat.le_refl _))]
    exact gs_put (fun x => vl_comp) _ _ _ (fun j x => fl_out P.dh (dg_tr _) (K j) x) x
/-! ### sizes by any other one -/
theorem top_iw (h0 : 0 < E) (hI : ∀ i, Iw E N (co h i)) (hz : co h m ≠ 0) (hT : Iw E T (co h m)) : ∃ K, 0 < K ∧ K ≤ T ∧ (∀ i, Iw K N (co h i / co h m)) ∧ Iw K E (1 / co h m) := by
  obtain ⟨z, e, l⟩ := hT
  have e0 : (E : Rat) ≠ 0 := by
    intro t; rw [Rat.natCast_eq_zero_iff] at t; omega
  have z0 : z ≠ 0 := fun t => by
    rw [t] at e
    rcases Rat.mul_eq_zero.mp e with h | h
    · exact hz h
    · exact e0 h
  have zr : (z : Rat) ≠ 0 := fun t => z0 (by exact_mod_cast t)
  have hc : co h m = z / E := by rw [← e]; grind
  refine ⟨z.natAbs, Int.natAbs_pos.mpr z0, l, fun i => ?_, ?_⟩
  · obtain ⟨w, e2, l2⟩ := hI i
    have hw : co h i = w / E := by rw [← e2]; grind
    have ed : co h i / co h m = (w : Rat) / z := by rw [hw, hc]; grind
    rcases Int.natAbs_eq z with t | t
    · refine ⟨w, ?_, l2⟩
      rw [ed]
      have : ((z.natAbs : Nat) : Rat) = (z : Rat) := by
        have : ((z.natAbs : Int) : Rat) = (z : Rat) := by rw [← t]
        exact_mod_cast this
      rw [this]; grind
    · refine ⟨-w, ?_, by rw [Int.natAbs_neg]; exact l2⟩
      rw [ed]
      have : ((z.natAbs : Nat) : Rat) = -(z : Rat) := by
        have h1 : (z.natAbs : Int) = -z := by omega
        have : ((z.natAbs : Int) : Rat) = ((-z : Int) : Rat) := by rw [h1]
        rw [Rat.intCast_neg] at this
        exact_mod_cast this
      rw [this, Rat.intCast_neg]; grind
  · have ed : 1 / co h m = (E : Rat) / z := by rw [hc]; grind
    rcases Int.natAbs_eq z with t | t
    · refine ⟨(E : Int), ?_, by rw [Int.natAbs_natCast]; exact Nat.le_refl _⟩
      rw [ed]
      have : ((z.natAbs : Nat) : Rat) = (z : Rat) := by
        have : ((z.natAbs : Int) : Rat) = (z : Rat) := by rw [← t]
        exact_mod_cast this
      rw [this]
      have : (((E : Int)) : Rat) = (E : Rat) := by norm_cast
      rw [this]; grind
    · refine ⟨-(E : Int), ?_, by rw [Int.natAbs_neg, Int.natAbs_natCast]; exact Nat.le_refl _⟩
      rw [ed]
      have : ((z.natAbs : Nat) : Rat) = -(z : Rat) := by
        have h1 : (z.natAbs : Int) = -z := by omega
        have : ((z.natAbs : Int) : Rat) = ((-z : Int) : Rat) := by rw [h1]
        rw [Rat.intCast_neg] at this
        exact_mod_cast this
      rw [this, Rat.intCast_neg]
      have : (((E : Int)) : Rat) = (E : Rat) := by norm_cast
      rw [this]; grind
variable {e v : Nat}
/-- sizes that suffice for all digits -/
structure Zh (m s Q a b e v : Nat) (f h : List Rat) (D M E N T : Nat) : Prop where
  H : Dh m h
  ht : Tr f
  D0 : 0 < D
  hf : ∀ i, Iw D M (co f i)
  E0 : 0 < E
  hh : ∀ i, Iw E N (co h i)
  hT : Iw E T (co h m)
  ls : f.length ≤ s + m
  lQ : f.length ≤ Q * m
  hD : D ≤ 2 ^ a
  hM : M ≤ 2 ^ b
  hE : T ^ (s + 1) ≤ 2 ^ e
  hN : (T + N) ^ (s + 1) * E ≤ 2 ^ v
  bD : a + e * (Q + 1) + e < 4480
  bM : b + v * (Q + 1) + v < 100000
  eE : E < 2 ^ 4480
  eN : N < 2 ^ 100000
theorem Zh.ndQ (Z : Zh m s Q a b e v f h D M E N T) : nd f h ≤ Q := Classical.byContradiction fun z => by
  have := (nd_iff (f := f) Z.H Q).mp (by omega)
  have := Z.lQ
  omega
theorem Zh.sv (Z : Zh m s Q a b e v f h D M E N T) : ∃ K, 0 < K ∧ K ≤ T ∧ Sv m f h D M K N K E := by
  obtain ⟨K, k0, kT, p1, p2⟩ := top_iw Z.E0 Z.hh Z.H.nz Z.hT
  exact ⟨K, k0, kT, Z.H, Z.D0, k0, k0, Z.E0, Z.hf, p1, p2⟩
theorem Zh.pw (Z : Zh m s Q a b e v f h D M E N T) {K : Nat} (k0 : 0 < K) (kT : K ≤ T) (t : Nat) : D * (K ^ s * K) ^ t ≤ 2 ^ (a + e * t) ∧ M * ((K + N) ^ s * E) ^ t ≤ 2 ^ (b + v * t) := by
  constructor
  · refine Nat.le_trans (Nat.mul_le_mul Z.hD (Nat.pow_le_pow_left (Nat.le_trans (by rw [← Nat.pow_succ]; exact Nat.pow_le_pow_left kT _) Z.hE) t)) ?_
    rw [← Nat.pow_mul, ← Nat.pow_add]; exact Nat.le_refl _
  · refine Nat.le_trans (Nat.mul_le_mul Z.hM (Nat.pow_le_pow_left (Nat.le_trans ?_ Z.hN) t)) ?_
    · refine Nat.mul_le_mul_right E (Nat.le_trans (Nat.pow_le_pow_left (Nat.add_le_add_right kT N) s) ?_)
      exact Nat.pow_le_pow_right (by omega) (by omega)
    · rw [← Nat.pow_mul, ← Nat.pow_add]; exact Nat.le_refl _
theorem Zh.sz (Z : Zh m s Q a b e v f h D M E N T) (j : Nat) : Sz m (qs f h j) h := by
  obtain ⟨K, k0, kT, V⟩ := Z.sv
  have H := Z.H
  have m0 := H.m0
  have hl := H.len
  have bD := Z.bD
  have bM := Z.bM
  have T1 : T ≤ 2 ^ e := Nat.le_trans (Nat.le_trans (Nat.le_of_eq (Nat.pow_one T).symm) (Nat.pow_le_pow_right (by omega) (by omega : 1 ≤ s + 1))) Z.hE
  have TN : T + N ≤ 2 ^ v := Nat.le_trans (Nat.le_trans (Nat.le_trans (Nat.le_of_eq (Nat.pow_one _).symm) (Nat.pow_le_pow_right (by omega) (by omega : 1 ≤ s + 1))) (Nat.le_mul_of_pos_right _ Z.E0)) Z.hN
  have Tlt : T < 2 ^ 4480 := Nat.lt_of_le_of_lt T1 (Nat.pow_lt_pow_right (by decide) (by omega))
  have hsm : ∀ i, Sm4 (co h i) := fun i => sm_of (Z.hh i) Z.E0 Z.eE Z.eN
  have Elt : E ≤ 2 ^ v := Nat.le_trans (Nat.le_mul_of_pos_left _ (Nat.pow_pos (by omega))) Z.hN
  have Elt2 : E < 2 ^ 100000 := Nat.lt_of_le_of_lt Elt (Nat.pow_lt_pow_right (by decide) (by omega))
  have hl2 : Hb 4480 (co h m) := Z.hT.hb Z.E0 Tlt Z.eE
  have hinv : Sm4 (1 / co h m) := sm_of V.pl k0 (Nat.lt_of_le_of_lt kT Tlt) Elt2
  have key : ∀ j, j ≤ Q → Sz m (qs f h j) h := fun j hj => by
    have W := Sv.qs V Z.ht Z.ls j
    have lq : (qs f h j).length ≤ s + m := by rw [qs_len H Z.ht]; have := Z.ls; omega
    obtain ⟨p1, p2⟩ := Z.pw k0 kT (j + 1)
    have m1 : e * (j + 1) ≤ e * (Q + 1) := Nat.mul_le_mul_left _ (by omega)
    have m2 : v * (j + 1) ≤ v * (Q + 1) := Nat.mul_le_mul_left _ (by omega)
    refine W.sz (n := s) (by unfold dnq; omega) ?_ ?_ hsm hl2 hinv
    · have e1 : D * (K ^ s * K) ^ j * (K ^ s * K) = D * (K ^ s * K) ^ (j + 1) := by rw [Nat.pow_succ, Nat.mul_assoc]
      rw [e1]
      refine Nat.lt_of_le_of_lt (Nat.mul_le_mul p1 (Nat.le_trans kT T1)) ?_
      rw [← Nat.pow_add]
      exact Nat.pow_lt_pow_right (by decide) (by omega)
    · have e1 : M * ((K + N) ^ s * E) ^ j * ((K + N) ^ s * E) = M * ((K + N) ^ s * E) ^ (j + 1) := by rw [Nat.pow_succ, Nat.mul_assoc]
      rw [e1]
      refine Nat.lt_of_le_of_lt (Nat.mul_le_mul p2 (Nat.le_trans (Nat.add_le_add_right kT N) TN)) ?_
      rw [← Nat.pow_add]
      exact Nat.pow_lt_pow_right (by decide) (by omega)
  by_cases hj : j ≤ nd f h
  · exact key j (by have := Z.ndQ; omega)
  · have e1 : qs f h j = [] := Classical.byContradiction fun z => by
      have := (qs_ne H Z.ht j).mp z; omega
    have e2 : qs f h (nd f h) = [] := Classical.byContradiction fun z => by
      have := (qs_ne H Z.ht (nd f h)).mp z; omega
    rw [e1, ← e2]
    exact key _ Z.ndQ
theorem Zh.qsi (Z : Zh m s Q a b e v f h D M E N T) (j : Nat) (hj : j ≤ Q) : ∃ D' M', 0 < D' ∧ D' ≤ 2 ^ (a + e * Q) ∧ M' ≤ 2 ^ (b + v * Q) ∧ ∀ i, Iw D' M' (co (qs f h j) i) := by
  obtain ⟨K, k0, kT, V⟩ := Z.sv
  have W := Sv.qs V Z.ht Z.ls j
  obtain ⟨p1, p2⟩ := Z.pw k0 kT j
  exact ⟨_, _, W.D0, Nat.le_trans p1 (Nat.pow_le_pow_right (by decide) (Nat.add_le_add_left (Nat.mul_le_mul_left _ hj) _)), Nat.le_trans p2 (Nat.pow_le_pow_right (by decide) (Nat.add_le_add_left (Nat.mul_le_mul_left _ hj) _)), W.pf⟩
theorem Zh.dgi (Z : Zh m s Q a b e v f h D M E N T) (j : Nat) : ∃ D' M', 0 < D' ∧ D' ≤ 2 ^ (a + e * (Q + 1)) ∧ M' ≤ 2 ^ (b + v * (Q + 1)) ∧ ∀ i, Iw D' M' (co (dg f h j) i) := by
  have H := Z.H
  by_cases hj : j < nd f h
  · obtain ⟨K, k0, kT, V⟩ := Z.sv
    have hQ := Z.ndQ
    have W := Sv.qs V Z.ht Z.ls j
    have lq : (qs f h j).length ≤ s + m := by rw [qs_len H Z.ht]; have := Z.ls; omega
    have hl := H.len
    have dn : dnq (qs f h j) h ≤ s := by unfold dnq; omega
    obtain ⟨p1, p2⟩ := Z.pw k0 kT (j + 1)
    have i1' := (W.dv (dnq (qs f h j) h) (Nat.le_refl _)).1
    have hd : ∀ i, co (dg f h j) i = co (dv (qs f h j) h (dnq (qs f h j) h)).1 i := fun i => by
      show co (divR (qs f h j) h) i = _
      rw [divR, co_trim]
    have i1 : ∀ i, Iw _ _ (co (dg f h j) i) := fun i => by rw [hd]; exact i1' i
    clear i1' hd
    generalize dnq (qs f h j) h = t at i1 dn
    refine ⟨D * (K ^ s * K) ^ j * K ^ t, M * ((K + N) ^ s * E) ^ j * (K + N) ^ t, Nat.mul_pos W.D0 (Nat.pow_pos k0), ?_, ?_, fun i => ?_⟩
    rotate_left 2
    · exact i1 i
    · refine Nat.le_trans ?_ (Nat.le_trans p1 (Nat.pow_le_pow_right (by decide) (Nat.add_le_add_left (Nat.mul_le_mul_left _ (by omega)) _)))
      rw [Nat.pow_succ, ← Nat.mul_assoc]
      refine Nat.mul_le_mul_left _ (Nat.le_trans (Nat.pow_le_pow_right k0 dn) (Nat.le_mul_of_pos_right _ k0))
    · refine Nat.le_trans ?_ (Nat.le_trans p2 (Nat.pow_le_pow_right (by decide) (Nat.add_le_add_left (Nat.mul_le_mul_left _ (by omega)) _)))
      rw [Nat.pow_succ, ← Nat.mul_assoc]
      refine Nat.mul_le_mul_left _ (Nat.le_trans (Nat.pow_le_pow_right (by omega) dn) (Nat.le_mul_of_pos_right _ Z.E0))
  · rw [dg_ge H Z.ht (by omega)]
    exact ⟨1, 1, by decide, Nat.one_le_two_pow, Nat.one_le_two_pow, fun i => Iw.zero _ _⟩
end
end DE

set_option Elab.async false
set_option linter.all false
set_option maxRecDepth 100000
set_option maxHeartbeats 4000000
set_option exponentiation.threshold 200000
set_option autoImplicit false
/-! Greater sizes; dividing by a multiple of one with the last number 1. -/
namespace DE
open PySem
section
variable {f g h h1 : List Rat} {x y z : Rat} {n m i j k s q D M E N H A a c b μ K : Nat}
theorem run_big (P : PL n f) (ht : Tr f) (D0 : 0 < D) (hI : ∀ i, Iw D M (co f i)) (hD : D ≤ 2 ^ 120) (hM : M ≤ 2 ^ 200) (H0 : 0 < H) (hH : ∀ i, Iw H (A * H) (co (fl f) i)) (hHb : H ≤ 2 ^ 120) (hAb : A ≤ 2 ^ 200) (e : m * q = n) (m0 : 0 < m) (q0 : 0 < q) (n24 : n ≤ 24) (j : Nat) : Sz m (DE.qs f (cand f m q) j) (cand f m q) := by
  have mn : m ≤ n := by rw [← e]; exact Nat.le_mul_of_pos_right _ q0
  have qn : q ≤ n := by rw [← e]; exact Nat.le_mul_of_pos_left _ m0
  have N := cand_nm (f := f) (q := q) m0
  have hb : H * q ≤ 2 ^ 125 := by
    have := Nat.mul_le_mul hHb (by omega : q ≤ 2 ^ 5)
    rwa [← Nat.pow_add] at this
  have b0 : 0 < H * q := Nat.mul_pos H0 q0
  have hK : (A + 1) * (24 * (H * q)) ≤ 2 ^ 331 := by
    have := Nat.mul_le_mul (by omega : A + 1 ≤ 2 ^ 201) (Nat.mul_le_mul (by decide : 24 ≤ 2 ^ 5) hb)
    rwa [← Nat.pow_add, ← Nat.pow_add] at this
  have K0 : 0 < (A + 1) * (24 * (H * q)) := Nat.mul_pos (by omega) (Nat.mul_pos (by decide) b0)
  have G1 := gp_f (b := H * q) (K := (A + 1) * (24 * (H * q))) hI (by rw [P.len]; exact Nat.le_refl _) n24 b0 (Nat.le_mul_of_pos_left _ (by omega))
  have G2 := gp_cand (m := m) (q := q) P H0 hH m0 q0 (by omega)
  have bf := bf_pow (n := n) hb n24
  have kn : ((A + 1) * (24 * (H * q))) ^ n ≤ 2 ^ (331 * 24) := by
    refine Nat.le_trans (Nat.pow_le_pow_left hK n) ?_
    rw [← Nat.pow_mul]
    exact Nat.pow_le_pow_right (by decide) (Nat.mul_le_mul_left 331 n24)
  have hBD : D * Bf (H * q) n < 2 ^ 4480 := by
    have := Nat.mul_le_mul hD bf
    rw [← Nat.pow_add] at this
    exact Nat.lt_of_le_of_lt this (Nat.pow_lt_pow_right (by decide) (by decide))
  have gg : GG ^ 700 ≤ 2 ^ 17500 := by
    show (2 ^ 25) ^ 700 ≤ _
    rw [← Nat.pow_mul]; exact Nat.pow_le_pow_right (by decide) (by decide)
  have hT : M * GG ^ 700 * ((A + 1) * (24 * (H * q))) ^ n * Bf (H * q) n ≤ 2 ^ 30000 := by
    have := Nat.mul_le_mul (Nat.mul_le_mul (Nat.mul_le_mul hM gg) kn) bf
    rw [← Nat.pow_add, ← Nat.pow_add, ← Nat.pow_add] at this
    exact Nat.le_trans this (Nat.pow_le_pow_right (by decide) (by decide))
  refine G1.run G2 ⟨N.len, m0, by rw [N.one]; decide⟩ N.one b0 D0 K0 ht (by rw [P.len]; exact Nat.le_refl _) n24 mn hBD hT (by decide) (fun i => ?_) j
  refine sm_of (G2.one b0 K0 n mn i) (by rw [Nat.one_mul]; exact Bf_pos b0 n) ?_ ?_
  · rw [Nat.one_mul]
    exact Nat.lt_of_le_of_lt bf (Nat.pow_lt_pow_right (by decide) (by decide))
  · rw [Nat.one_mul]
    have := Nat.mul_le_mul kn bf
    rw [← Nat.pow_add] at this
    exact Nat.lt_of_le_of_lt this (Nat.pow_lt_pow_right (by decide) (by decide))
/-- all digits by one bottom, graded -/
theorem Gp.dgi (G : Gp c b μ K n (co f)) (Hh : Gp 1 b 1 K m (co h)) (H : Dh m h) (h1 : co h m = 1) (b0 : 0 < b) (c0 : 0 < c) (K0 : 0 < K) (ht : Tr f) (lf : f.length ≤ n + 1) (n24 : n ≤ 24) (j i : Nat) : Iw (c * Bf b n) (μ * GG ^ 700 * K ^ n * Bf b n) (co (dg f h j) i) := by
  have m0 := H.m0
  have hl := H.len
  by_cases hj : j * m ≤ n
  · have g := G.qs Hh H h1 ht n24 lf j hj
    have lq := qs_len H ht j
    have jn : j ≤ 24 := by
      have : j * 1 ≤ j * m := Nat.mul_le_mul_left j m0
      omega
    have e : co (dg f h j) i = co (DE.dv (DE.qs f h j) h (dnq (DE.qs f h j) h)).1 i := by
      show co (divR (DE.qs f h j) h) i = _
      rw [divR, co_trim]
    rw [e]
    have up : ∀ t, t ≤ 700 → μ * (GG ^ t) * K ^ n * Bf b n ≤ μ * GG ^ 700 * K ^ n * Bf b n := fun t ht => Nat.mul_le_mul_right _ (Nat.mul_le_mul_right _ (Nat.mul_le_mul_left _ (Nat.pow_le_pow_right (by decide) ht)))
    by_cases hm : m ≤ n - j * m
    · have g2 := (g.dv Hh hl h1 (by omega) (by omega) hm (dnq (DE.qs f h j) h) (Nat.le_refl _)).1
      have dn : dnq (DE.qs f h j) h ≤ 25 := by unfold dnq; omega
      have e2 : μ * (GG ^ 25) ^ j * GG ^ dnq (DE.qs f h j) h = μ * GG ^ (25 * j + dnq (DE.qs f h j) h) := by rw [← Nat.pow_mul, Nat.mul_assoc, ← Nat.pow_add]
      rw [e2] at g2
      exact (g2.one b0 K0 n (by omega) i).mono (up _ (by omega))
    · have dq : dnq (DE.qs f h j) h = 0 := by unfold dnq; omega
      rw [dq]
      show Iw _ _ (co (DE.qs f h j) i)
      have e2 : μ * (GG ^ 25) ^ j = μ * GG ^ (25 * j) := by rw [← Nat.pow_mul]
      rw [e2] at g
      exact (g.one b0 K0 n (by omega) i).mono (up _ (by omega))
  · rw [dg_ge H ht (by
      refine Classical.byContradiction fun z => ?_
      have := (nd_iff (f := f) H j).mp (by omega)
      omega)]
    exact Iw.zero _ _
theorem bf_le (hb : 24 * b ≤ 2 ^ a) (hm : m ≤ 24) : Bf b m ≤ 2 ^ (a * m) := by
  refine Nat.le_trans (Bf_le24 hm) (Nat.le_trans (Nat.pow_le_pow_left hb m) ?_)
  rw [← Nat.pow_mul]; exact Nat.le_refl _
/-! ### dividing by c times a monic one -/
theorem dv_scale (hl : h.length = h1.length) (hc : z ≠ 0) (e : ∀ i, co h i = z * co h1 i) (ht : co h1 (h1.length - 1) ≠ 0) : ∀ s, (DE.dv f h s).1 = (DE.dv f h1 s).1
  | 0 => rfl
  | s + 1 => by
    have ih := dv_scale hl hc e ht s
    have dq : dnq f h = dnq f h1 := by unfold dnq; rw [hl]
    show row (dnq f h - 1 - s) (-(co (DE.dv f h s).1 (dnq f h - 1 - s + (h.length - 1)) / co h (h.length - 1))) (co h) h.length (DE.dv f h s).1 = row (dnq f h1 - 1 - s) (-(co (DE.dv f h1 s).1 (dnq f h1 - 1 - s + (h1.length - 1)) / co h1 (h1.length - 1))) (co h1) h1.length (DE.dv f h1 s).1
    rw [ih, dq, hl]
    generalize DE.dv f h1 s = P at *
    have key : ∀ (t n : Nat), row t (-(co P.1 (t + (h1.length - 1)) / co h (h1.length - 1))) (co h) n P.1 = row t (-(co P.1 (t + (h1.length - 1)) / co h1 (h1.length - 1))) (co h1) n P.1 := by
      intro t n
      induction n with
      | zero => rfl
      | succ n ih2 =>
        show addAt 0 (row t _ (co h) n P.1) (t + n) _ = addAt 0 (row t _ (co h1) n P.1) (t + n) _
        rw [ih2, e n, e (h1.length - 1)]
        congr 1
        grind
    exact key _ _
/-- what a division asks for, whatever is divided by -/
structure Sy (f h : List Rat) : Prop where
  ne : h ≠ []
  top : co h (h.length - 1) ≠ 0
  hs : ∀ i, Sm4 (co h i)
  l : Hb 4480 (co h (h.length - 1))
  r : ∀ s, s ≤ dnq f h → ∀ i, Sm4 (co (DE.dv f h s).1 i)
  o : ∀ s, s ≤ dnq f h → ∀ i, Sm4 (co (DE.dv f h s).1 i / co h (h.length - 1))
  p : ∀ s, s < dnq f h → ∀ j, Sm4 (co (DE.dv f h s).1 (dnq f h - 1 - s + (h.length - 1)) / co h (h.length - 1) * co h j)
theorem iw_div (hx : Iw D M x) {t : Nat} (t0 : 0 < t) : Iw (D * t) M (x / (t : Rat)) := by
  obtain ⟨w, e, l⟩ := hx
  refine ⟨w, ?_, l⟩
  have : (t : Rat) ≠ 0 := fun z => by rw [Rat.natCast_eq_zero_iff] at z; omega
  rw [Rat.natCast_mul, ← e, Rat.div_def]
  have h2 : (t : Rat)⁻¹ * t = 1 := Rat.inv_mul_cancel _ this
  grind
theorem Gp.sy (G : Gp c b μ K n (co f)) (Hh : Gp 1 b 1 K m (co h1)) (l1 : h1.length = m + 1) (t1 : co h1 m = 1) {t : Nat} (t0 : 0 < t) (t24 : t ≤ 24) (hl : h.length = h1.length) (e : ∀ i, co h i = (t : Rat) * co h1 i) (b0 : 0 < b) (c0 : 0 < c) (K0 : 0 < K) (lf : f.length ≤ n + 1) (n24 : n ≤ 24) (mn : m ≤ n) {B : Nat} (hB : c * Bf b n * 24 < 2 ^ 4480) (hT : μ * GG ^ 26 * K ^ n * Bf b n ≤ 2 ^ B) (hB2 : B < 99000) (hs : ∀ i, Sm4 (co h i)) : Sy f h := by
  have tr : (t : Rat) ≠ 0 := fun z => by rw [Rat.natCast_eq_zero_iff] at z; omega
  have ht1 : co h1 (h1.length - 1) = 1 := by rw [l1]; exact t1
  have top : co h (h.length - 1) = (t : Rat) := by rw [e, hl, ht1, Rat.mul_one]
  have sc := fun s => dv_scale (f := f) hl tr e (by rw [ht1]; decide) s
  have dq1 : dnq f h = dnq f h1 := by unfold dnq; rw [hl]
  have big : ∀ {N : Nat}, N ≤ 2 ^ B → N < 2 ^ 100000 := fun h => Nat.lt_of_le_of_lt h (Nat.pow_lt_pow_right (by decide) (by omega))
  have dn : dnq f h1 ≤ 25 := by unfold dnq; rw [l1]; omega
  have pos : 0 < c * Bf b n := Nat.mul_pos c0 (Bf_pos b0 n)
  have hB1 : c * Bf b n < 2 ^ 4480 := Nat.lt_of_le_of_lt (Nat.le_mul_of_pos_right _ (by decide)) hB
  have gs : ∀ s, s ≤ dnq f h1 → μ * GG ^ s * K ^ n * Bf b n ≤ 2 ^ B := fun s hs => Nat.le_trans (Nat.mul_le_mul_right _ (Nat.mul_le_mul_right _ (Nat.mul_le_mul_left _ (Nat.pow_le_pow_right (by decide) (by omega))))) hT
  have iw : ∀ s, s ≤ dnq f h1 → ∀ i, Iw (c * Bf b n) (2 ^ B) (co (DE.dv f h1 s).1 i) := fun s hs i => (((G.dv Hh l1 t1 lf n24 mn s hs).1).one b0 K0 n (Nat.le_refl _) i).mono (gs s hs)
  refine ⟨fun z => by rw [z, l1] at hl; simp at hl, by rw [top]; exact tr, hs, ?_, fun s hs i => ?_, fun s hs i => ?_, fun s hs j => ?_⟩
  · rw [top]
    refine ⟨Nat.lt_of_le_of_lt (?_ : _ ≤ 24) (Nat.lt_of_lt_of_le (by decide : 24 < 2 ^ 5) (Nat.pow_le_pow_right (by decide) (by decide))), Nat.lt_of_le_of_lt (Nat.le_of_eq ?_ : _ ≤ 1) (Nat.one_lt_two_pow (by decide))⟩
    · show ((t : Rat)).num.natAbs ≤ 24
      rw [Rat.num_natCast]; simpa using t24
    · exact Rat.den_natCast t
  · rw [dq1] at hs
    rw [sc]; exact sm_of (iw s hs i) pos hB1 (big (Nat.le_refl _))
  · rw [dq1] at hs
    rw [sc, top]
    refine sm_of (iw_div (iw s hs i) t0) (Nat.mul_pos pos t0) (Nat.lt_of_le_of_lt (Nat.mul_le_mul_left _ t24) hB) (big (Nat.le_refl _))
  · rw [dq1] at hs
    rw [sc, dq1, top, hl, e j]
    have er : co (DE.dv f h1 s).1 (dnq f h1 - 1 - s + (h1.length - 1)) / (t : Rat) * ((t : Rat) * co h1 j) = co (DE.dv f h1 s).1 (dnq f h1 - 1 - s + m) * co h1 j := by
      rw [l1, Nat.add_sub_cancel, Rat.div_def]
      have h2 : (t : Rat)⁻¹ * t = 1 := Rat.inv_mul_cancel _ tr
      grind
    rw [er]
    have g := (G.dv Hh l1 t1 lf n24 mn s (Nat.le_of_lt hs)).1
    have dq : dnq f h1 = f.length - m := by unfold dnq; rw [l1]; omega
    by_cases hj : j ≤ m
    · have a1 := g.at_ (n - m - (dnq f h1 - 1 - s)) (by omega)
      rw [show n - (n - m - (dnq f h1 - 1 - s)) = dnq f h1 - 1 - s + m by omega] at a1
      have a2 := Hh.at_ (m - j) (by omega)
      rw [show m - (m - j) = j by omega] at a2
      have p := iw_mul_at a1 a2
      have le : n - m - (dnq f h1 - 1 - s) + (m - j) ≤ n := by omega
      rw [Nat.mul_one] at p
      generalize hI : n - m - (dnq f h1 - 1 - s) + (m - j) = I at *
      have e : 2 ^ I * (μ * GG ^ s * K ^ (n - m - (dnq f h1 - 1 - s)) * (1 * K ^ (m - j))) = 2 ^ I * (μ * GG ^ s) * K ^ I := by
        rw [Nat.one_mul, Nat.mul_assoc (μ * GG ^ s), ← Nat.pow_add, hI]; generalize GG ^ s = t; generalize K ^ I = u; ac_rfl
      rw [e] at p
      have bI : c * Bf b I < 2 ^ 4480 := Nat.lt_of_le_of_lt (Nat.mul_le_mul_left c (Bf_mono b0 le)) hB1
      refine sm_of p (Nat.mul_pos c0 (Bf_pos b0 I)) bI (big (Nat.le_trans ?_ hT))
      have t1 : 2 ^ I * (μ * GG ^ s) ≤ μ * GG ^ 26 := by
        have q1 : 2 ^ I ≤ GG := Nat.pow_le_pow_right (by decide) (by omega)
        have q2 : GG * GG ^ s ≤ GG ^ 26 := by
          have : GG * GG ^ s = GG ^ (s + 1) := by rw [Nat.pow_succ, Nat.mul_comm]
          rw [this]; exact Nat.pow_le_pow_right (by decide) (by omega)
        calc 2 ^ I * (μ * GG ^ s) ≤ GG * (μ * GG ^ s) := Nat.mul_le_mul_right _ q1
          _ = μ * (GG * GG ^ s) := by ac_rfl
          _ ≤ μ * GG ^ 26 := Nat.mul_le_mul_left _ q2
      refine Nat.le_trans (Nat.mul_le_mul t1 (Nat.pow_le_pow_right K0 le)) ?_
      exact Nat.le_mul_of_pos_right _ (Bf_pos b0 n)
    · have : co h1 j = 0 := co_ge (by omega)
      rw [this, Rat.mul_zero]
      exact ⟨Nat.lt_of_le_of_lt (by decide +kernel : (0 : Rat).num.natAbs ≤ 0) (Nat.two_pow_pos _), Nat.lt_of_le_of_lt (by decide +kernel : (0 : Rat).den ≤ 1) (Nat.one_lt_two_pow (by decide))⟩
end
end DE

set_option Elab.async false
set_option linter.all false
set_option maxRecDepth 100000
set_option maxHeartbeats 4000000
set_option exponentiation.threshold 200000
set_option autoImplicit false
/-! Greater sizes; dividing by a multiple of one with the last number 1. -/
namespace DE
open PySem
section
variable {f g h h1 : List Rat} {x y z : Rat} {n m i j k s q D M E N H A a c b μ K : Nat}
theorem run_240 (P : PL n f) (ht : Tr f) (D0 : 0 < D) (hI : ∀ i, Iw D M (co f i)) (hD : D ≤ 2 ^ 120) (hM : M ≤ 2 ^ 240) (H0 : 0 < H) (hH : ∀ i, Iw H (A * H) (co (fl f) i)) (hHb : H ≤ 2 ^ 120) (hAb : A ≤ 2 ^ 240) (e : m * q = n) (m0 : 0 < m) (q0 : 0 < q) (n24 : n ≤ 24) (j : Nat) : Sz m (DE.qs f (cand f m q) j) (cand f m q) := by
  have mn : m ≤ n := by rw [← e]; exact Nat.le_mul_of_pos_right _ q0
  have qn : q ≤ n := by rw [← e]; exact Nat.le_mul_of_pos_left _ m0
  have N := cand_nm (f := f) (q := q) m0
  have hb : H * q ≤ 2 ^ 125 := by
    have := Nat.mul_le_mul hHb (by omega : q ≤ 2 ^ 5)
    rwa [← Nat.pow_add] at this
  have b0 : 0 < H * q := Nat.mul_pos H0 q0
  have hK : (A + 1) * (24 * (H * q)) ≤ 2 ^ 371 := by
    have := Nat.mul_le_mul (by omega : A + 1 ≤ 2 ^ 241) (Nat.mul_le_mul (by decide : 24 ≤ 2 ^ 5) hb)
    rwa [← Nat.pow_add, ← Nat.pow_add] at this
  have K0 : 0 < (A + 1) * (24 * (H * q)) := Nat.mul_pos (by omega) (Nat.mul_pos (by decide) b0)
  have G1 := gp_f (b := H * q) (K := (A + 1) * (24 * (H * q))) hI (by rw [P.len]; exact Nat.le_refl _) n24 b0 (Nat.le_mul_of_pos_left _ (by omega))
  have G2 := gp_cand (m := m) (q := q) P H0 hH m0 q0 (by omega)
  have bf := bf_pow (n := n) hb n24
  have kn : ((A + 1) * (24 * (H * q))) ^ n ≤ 2 ^ (371 * 24) := by
    refine Nat.le_trans (Nat.pow_le_pow_left hK n) ?_
    rw [← Nat.pow_mul]
    exact Nat.pow_le_pow_right (by decide) (Nat.mul_le_mul_left 371 n24)
  have hBD : D * Bf (H * q) n < 2 ^ 4480 := by
    have := Nat.mul_le_mul hD bf
    rw [← Nat.pow_add] at this
    exact Nat.lt_of_le_of_lt this (Nat.pow_lt_pow_right (by decide) (by decide))
  have gg : GG ^ 700 ≤ 2 ^ 17500 := by
    show (2 ^ 25) ^ 700 ≤ _
    rw [← Nat.pow_mul]; exact Nat.pow_le_pow_right (by decide) (by decide)
  have hT : M * GG ^ 700 * ((A + 1) * (24 * (H * q))) ^ n * Bf (H * q) n ≤ 2 ^ 40000 := by
    have := Nat.mul_le_mul (Nat.mul_le_mul (Nat.mul_le_mul hM gg) kn) bf
    rw [← Nat.pow_add, ← Nat.pow_add, ← Nat.pow_add] at this
    exact Nat.le_trans this (Nat.pow_le_pow_right (by decide) (by decide))
  refine G1.run G2 ⟨N.len, m0, by rw [N.one]; decide⟩ N.one b0 D0 K0 ht (by rw [P.len]; exact Nat.le_refl _) n24 mn hBD hT (by decide) (fun i => ?_) j
  refine sm_of (G2.one b0 K0 n mn i) (by rw [Nat.one_mul]; exact Bf_pos b0 n) ?_ ?_
  · rw [Nat.one_mul]
    exact Nat.lt_of_le_of_lt bf (Nat.pow_lt_pow_right (by decide) (by decide))
  · rw [Nat.one_mul]
    have := Nat.mul_le_mul kn bf
    rw [← Nat.pow_add] at this
    exact Nat.lt_of_le_of_lt this (Nat.pow_lt_pow_right (by decide) (by decide))
end
end DE

set_option Elab.async false
set_option linter.all false
set_option maxRecDepth 100000
set_option maxHeartbeats 4000000
set_option exponentiation.threshold 200000
set_option autoImplicit false
/-! Sizes as powers of two. -/
namespace DE
open PySem
section
variable {f g h p : List Rat} {x y z : Rat} {n m i j k s q d t w D M E N c a b e v : Nat}
theorem mul_iw (hf : ∀ i, Iw D M (co f i)) (hg : ∀ i, Iw E N (co g i)) (lf : f.length ≤ c) (i : Nat) : Iw (D * E) (c * (M * N)) (co (mulP f g) i) := by
  rw [co_mulP]
  refine (Iw.sum fun l hl => ?_).mono (Nat.mul_le_mul_right _ lf)
  split
  · exact (hf _).mul (hg _)
  · exact Iw.zero _ _
theorem mulP_comm (f g : List Rat) : mulP f g = mulP g f := tr_vl (trim_tr _) (trim_tr _) fun x => by rw [vl_mulP, vl_mulP, Rat.mul_comm]
theorem co_oneT (x : Rat) (i : Nat) : co (trim [x]) i = if i = 0 then x else 0 := by
  rw [co_trim]
  cases i <;> simp
theorem comp_iw (hh : ∀ i, Iw E N (co h i)) (E0 : 0 < E) (lh : h.length ≤ c) : ∀ (g : List Rat) (d : Nat), (∀ i, Iw D M (co g i)) → g.length ≤ d + 1 → ∀ i, Iw (D * E ^ d) (M * (c * N + E) ^ d) (co (compP g h) i)
  | [], d, _, _, i => Iw.zero _ _
  | [a], 0, hg, _, i => by
    rw [compP_cons, stepP, co_addP, co_oneT, co_mulP]
    have : conv (compP [] h).length (co (compP [] h)) (co h) i = 0 := rfl
    rw [this, Rat.zero_add, Nat.pow_zero, Nat.pow_zero, Nat.mul_one, Nat.mul_one]
    split
    · exact hg 0
    · exact Iw.zero _ _
  | _ :: _ :: _, 0, _, hl, _ => by simp at hl
  | a :: g, d + 1, hg, hl, i => by
    have ih := comp_iw hh E0 lh g d (fun i => by have := hg (i + 1); rwa [co_succ] at this) (by simp at hl; omega)
    have pm := mul_iw hh ih lh
    rw [compP_cons, stepP, mulP_comm, co_addP, co_oneT]
    have e1 : E * (D * E ^ d) = D * E ^ (d + 1) := by rw [Nat.pow_succ]; ac_rfl
    have hx : Iw (D * E ^ (d + 1)) (M * E ^ (d + 1)) (if i = 0 then a else 0) := by
      split
      · exact (hg 0).scale _
      · exact Iw.zero _ _
    have pm' := pm i
    rw [e1] at pm'
    refine (pm'.add hx).mono ?_
    have a1 : E ^ d ≤ (c * N + E) ^ d := Nat.pow_le_pow_left (by omega) d
    have a2 : c * (N * (M * (c * N + E) ^ d)) = M * (c * N + E) ^ d * (c * N) := by ac_rfl
    have a3 : M * E ^ (d + 1) ≤ M * (c * N + E) ^ d * E := by
      rw [Nat.pow_succ, ← Nat.mul_assoc]
      exact Nat.mul_le_mul_right _ (Nat.mul_le_mul_left _ a1)
    have a4 : M * (c * N + E) ^ (d + 1) = M * (c * N + E) ^ d * (c * N) + M * (c * N + E) ^ d * E := by
      rw [Nat.pow_succ, ← Nat.mul_assoc, Nat.mul_add]
    rw [a4, a2]
    exact Nat.add_le_add_left a3 _
theorem iw_quot (hx : Iw D M x) (hy : Iw D N y) (D0 : 0 < D) (y0 : y ≠ 0) : ∃ K, 0 < K ∧ K ≤ N ∧ Iw K M (x / y) := by
  obtain ⟨zx, ex, lx⟩ := hx
  obtain ⟨zy, ey, ly⟩ := hy
  have dn : (D : Rat) ≠ 0 := natR_ne D0
  have zn : zy ≠ 0 := fun z => by
    rw [z] at ey
    exact (Rat.mul_eq_zero.mp ey).elim y0 dn
  have key : x / y * (zy : Rat) = zx := by
    rw [← ey, ← ex, Rat.div_def]
    have := Rat.inv_mul_cancel y y0
    grind
  refine ⟨zy.natAbs, by omega, ly, ?_⟩
  rcases Int.natAbs_eq zy with h | h
  · refine ⟨zx, ?_, lx⟩
    rw [← key]
    congr 1
    rw [← Rat.intCast_natCast]
    exact congrArg _ h.symm
  · refine ⟨-zx, ?_, by rw [Int.natAbs_neg]; exact lx⟩
    rw [Rat.intCast_neg, ← key]
    have e : ((zy.natAbs : Nat) : Rat) = -(zy : Rat) := by
      rw [← Rat.intCast_natCast, ← Rat.intCast_neg]
      exact congrArg _ (by omega)
    rw [e]; grind
/-- a fraction's size -/
def Fq (a b : Nat) (x : Rat) : Prop := ∃ D M, 0 < D ∧ Iw D M x ∧ D ≤ 2 ^ a ∧ M ≤ 2 ^ b
/-- a polynomial's -/
def Pq (a b : Nat) (f : List Rat) : Prop := ∃ D M, 0 < D ∧ (∀ i, Iw D M (co f i)) ∧ D ≤ 2 ^ a ∧ M ≤ 2 ^ b
theorem two_le (h : a ≤ b) : 2 ^ a ≤ 2 ^ b := Nat.pow_le_pow_right (by decide) h
theorem two_mul_le {X Y : Nat} (hX : X ≤ 2 ^ a) (hY : Y ≤ 2 ^ b) : X * Y ≤ 2 ^ (a + b) := by rw [Nat.pow_add]; exact Nat.mul_le_mul hX hY
theorem two_add_le {X Y : Nat} (hX : X ≤ 2 ^ a) (hY : Y ≤ 2 ^ b) (h1 : a + 1 ≤ w) (h2 : b + 1 ≤ w) : X + Y ≤ 2 ^ w := by
  obtain ⟨w', rfl⟩ : ∃ w', w = w' + 1 := ⟨w - 1, by omega⟩
  have := two_le (by omega : a ≤ w')
  have := two_le (by omega : b ≤ w')
  rw [Nat.pow_succ]; omega
theorem Fq.mono (X : Fq a b x) (h1 : a ≤ e) (h2 : b ≤ v) : Fq e v x := by
  obtain ⟨D, M, h, I, hD, hM⟩ := X
  exact ⟨D, M, h, I, Nat.le_trans hD (two_le h1), Nat.le_trans hM (two_le h2)⟩
theorem Pq.mono (X : Pq a b f) (h1 : a ≤ e) (h2 : b ≤ v) : Pq e v f := by
  obtain ⟨D, M, h, I, hD, hM⟩ := X
  exact ⟨D, M, h, I, Nat.le_trans hD (two_le h1), Nat.le_trans hM (two_le h2)⟩
theorem Pq.co (X : Pq a b f) (i : Nat) : Fq a b (co f i) := by
  obtain ⟨D, M, h, I, hD, hM⟩ := X
  exact ⟨D, M, h, I i, hD, hM⟩
theorem self_den (x : Rat) : x * (x.den : Rat) = x.num := by
  have := wn_eq (b := x.den) (x := x) (Nat.dvd_refl _)
  unfold wn at this
  rw [Nat.div_self x.den_pos] at this
  rw [Rat.mul_comm, ← this]
  simp
theorem Fq.of (h1 : x.num.natAbs ≤ 2 ^ b) (h2 : x.den ≤ 2 ^ a) : Fq a b x := ⟨x.den, x.num.natAbs, x.den_pos, ⟨x.num, self_den x, Nat.le_refl _⟩, h2, h1⟩
theorem Fq.mul (X : Fq a b x) (Y : Fq e v y) : Fq (a + e) (b + v) (x * y) := by
  obtain ⟨D, M, h, I, hD, hM⟩ := X
  obtain ⟨D', M', h', I', hD', hM'⟩ := Y
  exact ⟨_, _, Nat.mul_pos h h', I.mul I', two_mul_le hD hD', two_mul_le hM hM'⟩
theorem Fq.add (X : Fq a b x) (Y : Fq e v y) (h1 : b + e + 1 ≤ w) (h2 : v + a + 1 ≤ w) : Fq (a + e) w (x + y) := by
  obtain ⟨D, M, h, I, hD, hM⟩ := X
  obtain ⟨D', M', h', I', hD', hM'⟩ := Y
  have I2 := I'.scale D
  rw [Nat.mul_comm D' D] at I2
  exact ⟨_, _, Nat.mul_pos h h', (I.scale D').add I2, two_mul_le hD hD', two_add_le (two_mul_le hM hD') (two_mul_le hM' hD) h1 h2⟩
theorem Fq.neg (X : Fq a b x) : Fq a b (-x) := by
  obtain ⟨D, M, h, I, hD, hM⟩ := X
  exact ⟨D, M, h, I.neg, hD, hM⟩
theorem Fq.div (X : Fq a b x) (Y : Fq e v y) (y0 : y ≠ 0) : Fq (v + a) (b + e) (x / y) := by
  obtain ⟨D, M, h, I, hD, hM⟩ := X
  obtain ⟨D', M', h', I', hD', hM'⟩ := Y
  have I2 := I'.scale D
  rw [Nat.mul_comm D' D] at I2
  obtain ⟨K, k0, k1, k2⟩ := iw_quot (I.scale D') I2 (Nat.mul_pos h h') y0
  exact ⟨K, _, k0, k2, Nat.le_trans k1 (two_mul_le hM' hD), two_mul_le hM hD'⟩
theorem fq_one : Fq 0 0 (1 : Rat) := ⟨1, 1, by decide, ⟨1, by decide +kernel, by decide⟩, by decide, by decide⟩
theorem fq_nat (h : n ≤ 2 ^ b) : Fq 0 b (n : Rat) := ⟨1, n, by decide, ⟨(n : Int), by simp [Rat.intCast_natCast], by simp⟩, by decide, h⟩
theorem Fq.inv (Y : Fq e v y) (y0 : y ≠ 0) : Fq v e (1 / y) := by
  have := fq_one.div Y y0
  exact this.mono (by omega) (by omega)
theorem Fq.hb (X : Fq a b x) (h1 : a < k) (h2 : b < k) : Hb k x := by
  obtain ⟨D, M, h, I, hD, hM⟩ := X
  exact I.hb h (Nat.lt_of_le_of_lt hM (Nat.pow_lt_pow_right (by decide) h2)) (Nat.lt_of_le_of_lt hD (Nat.pow_lt_pow_right (by decide) h1))
theorem Fq.sm (X : Fq a b x) (h1 : a < 4480) (h2 : b < 100000) : Sm4 x := by
  obtain ⟨D, M, h, I, hD, hM⟩ := X
  exact ⟨I.hbn h (Nat.lt_of_le_of_lt hM (Nat.pow_lt_pow_right (by decide) h2)), I.hbd h (Nat.lt_of_le_of_lt hD (Nat.pow_lt_pow_right (by decide) h1))⟩
theorem mem_ofco {P : Rat → Prop} {f : List Rat} (h : ∀ i, P (DE.co f i)) : ∀ x ∈ f, P x := fun x hx => by
  obtain ⟨i, hi⟩ := List.mem_iff_getElem?.mp hx
  have hl : i < f.length := by
    refine Classical.byContradiction fun z => ?_
    rw [List.getElem?_eq_none (by omega)] at hi; cases hi
  rw [co_lt hl] at hi
  rw [← Option.some.inj hi]; exact h i
theorem Pq.hb (X : Pq a b f) (h1 : a < k) (h2 : b < k) : ∀ x ∈ f, Hb k x := mem_ofco fun i => (X.co i).hb h1 h2
theorem Pq.sm (X : Pq a b f) (h1 : a < 4480) (h2 : b < 100000) : ∀ x ∈ f, Sm4 x := mem_ofco fun i => (X.co i).sm h1 h2
theorem Pq.nil : Pq 0 0 [] := ⟨1, 1, by decide, fun i => Iw.zero _ _, by decide, by decide⟩
theorem Pq.mul (X : Pq a b f) (Y : Pq e v g) (lf : f.length ≤ 2 ^ t) : Pq (a + e) (t + (b + v)) (mulP f g) := by
  obtain ⟨D, M, h, I, hD, hM⟩ := X
  obtain ⟨D', M', h', I', hD', hM'⟩ := Y
  exact ⟨_, _, Nat.mul_pos h h', mul_iw I I' lf, two_mul_le hD hD', two_mul_le (Nat.le_refl _) (two_mul_le hM hM')⟩
theorem Pq.add (X : Pq a b f) (Y : Pq e v g) (h1 : b + e + 1 ≤ w) (h2 : v + a + 1 ≤ w) : Pq (a + e) w (addP f g) := by
  obtain ⟨D, M, h, I, hD, hM⟩ := X
  obtain ⟨D', M', h', I', hD', hM'⟩ := Y
  refine ⟨_, _, Nat.mul_pos h h', fun i => ?_, two_mul_le hD hD', two_add_le (two_mul_le hM hD') (two_mul_le hM' hD) h1 h2⟩
  have I2 := (I' i).scale D
  rw [Nat.mul_comm D' D] at I2
  rw [co_addP]
  exact ((I i).scale D').add I2
theorem Pq.mulC (C : Fq a b x) (Y : Pq e v g) : Pq (a + e) (b + v) (mulC x g) := by
  obtain ⟨D, M, h, I, hD, hM⟩ := C
  obtain ⟨D', M', h', I', hD', hM'⟩ := Y
  exact ⟨_, _, Nat.mul_pos h h', fun i => by rw [co_mulC]; exact I.mul (I' i), two_mul_le hD hD', two_mul_le hM hM'⟩
theorem Pq.comp (X : Pq a b g) (Y : Pq e v h) (lg : g.length ≤ d + 1) (lh : h.length ≤ 2 ^ t) (he : e ≤ v + t) : Pq (a + e * d) (b + (v + t + 1) * d) (compP g h) := by
  obtain ⟨D, M, h0, I, hD, hM⟩ := X
  obtain ⟨D', M', h', I', hD', hM'⟩ := Y
  refine ⟨_, _, Nat.mul_pos h0 (Nat.pow_pos h'), comp_iw I' h' lh g d I lg, two_mul_le hD ?_, two_mul_le hM ?_⟩
  · rw [Nat.pow_mul]; exact Nat.pow_le_pow_left hD' d
  · rw [Nat.pow_mul]
    refine Nat.pow_le_pow_left (two_add_le (a := t + v) (b := e) (two_mul_le (Nat.le_refl _) hM') hD' (by omega) (by omega)) d
theorem Pq.nrm (X : Pq a b f) (P : PL n f) : Pq b b (nrm f) := by
  obtain ⟨D, M, h0, I, hD, hM⟩ := X
  obtain ⟨K, k0, k1, _⟩ := iw_quot (I 0) (I n) h0 P.nz
  obtain ⟨zy, ey, ly⟩ := I n
  refine ⟨zy.natAbs, M, ?_, fun i => ?_, Nat.le_trans ly hM, hM⟩
  · refine Nat.pos_of_ne_zero fun z => ?_
    have : zy = 0 := by omega
    rw [this] at ey
    exact (Rat.mul_eq_zero.mp ey).elim P.nz (natR_ne h0)
  · rw [co_nrm P]
    split
    · exact Iw.zero _ _
    · obtain ⟨zx, ex, lx⟩ := I i
      have key : DE.co f i / DE.co f n * (zy : Rat) = zx := by
        rw [← ey, ← ex, Rat.div_def]
        have := Rat.inv_mul_cancel _ P.nz
        grind
      rcases Int.natAbs_eq zy with h | h
      · refine ⟨zx, ?_, lx⟩
        rw [← key]
        congr 1
        rw [← Rat.intCast_natCast]
        exact congrArg _ h.symm
      · refine ⟨-zx, ?_, by rw [Int.natAbs_neg]; exact lx⟩
        rw [Rat.intCast_neg, ← key]
        have e : ((zy.natAbs : Nat) : Rat) = -(zy : Rat) := by
          rw [← Rat.intCast_natCast, ← Rat.intCast_neg]
          exact congrArg _ (by omega)
        rw [e]; grind
/-- straight ones -/
theorem Pq.two (X : Fq a b x) (Y : Fq e v y) (h1 : b + e ≤ w) (h2 : v + a ≤ w) : Pq (a + e) w [x, y] := by
  obtain ⟨D, M, h, I, hD, hM⟩ := X
  obtain ⟨D', M', h', I', hD', hM'⟩ := Y
  have I2 := I'.scale D
  rw [Nat.mul_comm D' D] at I2
  refine ⟨_, 2 ^ w, Nat.mul_pos h h', fun i => ?_, two_mul_le hD hD', Nat.le_refl _⟩
  match i with
  | 0 => exact (I.scale D').mono (Nat.le_trans (two_mul_le hM hD') (two_le h1))
  | 1 => exact I2.mono (Nat.le_trans (two_mul_le hM' hD) (two_le h2))
  | i + 2 => rw [co_ge (by simp)]; exact Iw.zero _ _
theorem Pq.one (X : Fq a b x) : Pq a b (trim [x]) := by
  obtain ⟨D, M, h, I, hD, hM⟩ := X
  exact ⟨D, M, h, fun i => by
    rw [co_oneT]
    split
    · exact I
    · exact Iw.zero _ _, hD, hM⟩
end
end DE

set_option Elab.async false
set_option linter.all false
set_option maxRecDepth 100000
set_option maxHeartbeats 4000000
set_option exponentiation.threshold 200000
set_option autoImplicit false
/-! Roots' sizes for degrees to 27. -/
namespace DE
open PySem
section
variable {H A q j k : Nat}
theorem fct_le27 : ∀ {j : Nat}, j ≤ 27 → fct j ≤ 27 ^ j
  | 0, _ => Nat.le_refl _
  | j + 1, h => by
    rw [fct, Nat.pow_succ, Nat.mul_comm]
    exact Nat.mul_le_mul (fct_le27 (by omega)) (by omega)
theorem WnH_pow27 {j : Nat} (hH : 0 < H) (hq : 0 < q) (hj : q * (j + 1) ≤ 27) (k : Nat) (hk : k ≤ q) : WnH H q j ^ k ≤ (H * 729) ^ 27 ∧ ((A + 1) ^ j * WnH H q j) ^ k ≤ ((A + 1) * (H * 729)) ^ 27 := by
  have q16 : q ≤ 27 := Nat.le_trans (Nat.le_mul_of_pos_right _ (by omega)) hj
  have j16 : j + 1 ≤ 27 := Nat.le_trans (Nat.le_mul_of_pos_left _ hq) hj
  have jk : j * k ≤ 27 := by
    refine Nat.le_trans (Nat.mul_le_mul_left j hk) ?_
    rw [Nat.mul_comm]
    exact Nat.le_trans (Nat.mul_le_mul_left q (by omega : j ≤ j + 1)) hj
  have b : WnH H q j ≤ (H * 729) ^ j := by
    unfold WnH
    rw [show (729 : Nat) = 27 * 27 from rfl, ← Nat.mul_assoc, Nat.mul_pow (H * 27)]
    exact Nat.mul_le_mul (Nat.pow_le_pow_left (Nat.mul_le_mul_left _ q16) _) (fct_le27 (by omega))
  refine ⟨?_, ?_⟩
  · refine Nat.le_trans (Nat.pow_le_pow_left b k) ?_
    rw [← Nat.pow_mul]
    exact Nat.pow_le_pow_right (Nat.mul_pos hH (by decide)) jk
  · refine Nat.le_trans (Nat.pow_le_pow_left (Nat.mul_le_mul_left _ b) k) ?_
    rw [← Nat.mul_pow, ← Nat.pow_mul]
    exact Nat.pow_le_pow_right (Nat.mul_pos (by omega) (Nat.mul_pos hH (by decide))) jk
end
end DE

set_option Elab.async false
set_option linter.all false
set_option maxRecDepth 100000
set_option maxHeartbeats 4000000
set_option autoImplicit false
namespace K48
open PySem PySem.Spec PyProof.Rows L2 DE
/-- the text of the top's i-th statement -/
def at_ (i : Nat) : Stmt := PySem.Challenge.pw_putwithin_k48_whole_roots_and_repeated_o.main.body.getD i (.Pass ⟨0, 0, 0, 0⟩)
/- 0: common_divisor(one, other); slots one, other -/
def b_common_divisor : List Stm :=
  [.ret (.gcd (.var 0) (.var 1))]
def x_common_divisor : DE.Ctx := ⟨defScope (at_ 2), ["one", "other"], none, [], [], true⟩
theorem k_common_divisor : chkB x_common_divisor b_common_divisor (defBody (at_ 2)) = true := by decide +kernel
theorem s_common_divisor : FnScope ["one", "other"] ["one", "other"] (defScope (at_ 2)) := ⟨rfl, rfl, rfl, by decide +kernel, rfl, by decide +kernel, by decide +kernel⟩
/- 1: fraction_of(p, q); slots p, q, by -/
def b_fraction_of : List Stm :=
  [.asg 2 (.ite (.cmp .gt (.var 1) (.int 0)) (.call 0 [.var 0, .var 1]) (.neg (.call 0 [.var 0, .var 1]))),
  .ret (.tup [.bin .fdiv (.var 0) (.var 2), .bin .fdiv (.var 1) (.var 2)])]
def x_fraction_of : DE.Ctx := ⟨defScope (at_ 3), ["p", "q", "by"], none, [("common_divisor", 0)], [], false⟩
theorem k_fraction_of : chkB x_fraction_of b_fraction_of (defBody (at_ 3)) = true := by decide +kernel
theorem s_fraction_of : FnScope ["p", "q", "by"] ["p", "q"] (defScope (at_ 3)) := ⟨rfl, rfl, rfl, by decide +kernel, rfl, by decide +kernel, by decide +kernel⟩
/- 2: fraction_sum(one, other); slots one, other -/
def b_fraction_sum : List Stm :=
  [.ret (.call 1 [.bin .add (.bin .mul (.ix (.var 0) (.int 0)) (.ix (.var 1) (.int 1))) (.bin .mul (.ix (.var 1) (.int 0)) (.ix (.var 0) (.int 1))), .bin .mul (.ix (.var 0) (.int 1)) (.ix (.var 1) (.int 1))])]
def x_fraction_sum : DE.Ctx := ⟨defScope (at_ 4), ["one", "other"], none, [("fraction_of", 1)], [], false⟩
theorem k_fraction_sum : chkB x_fraction_sum b_fraction_sum (defBody (at_ 4)) = true := by decide +kernel
theorem s_fraction_sum : FnScope ["one", "other"] ["one", "other"] (defScope (at_ 4)) := ⟨rfl, rfl, rfl, by decide +kernel, rfl, by decide +kernel, by decide +kernel⟩
/- 3: fraction_turned(one); slots one -/
def b_fraction_turned : List Stm :=
  [.ret (.tup [.neg (.ix (.var 0) (.int 0)), .ix (.var 0) (.int 1)])]
def x_fraction_turned : DE.Ctx := ⟨defScope (at_ 5), ["one"], none, [], [], false⟩
theorem k_fraction_turned : chkB x_fraction_turned b_fraction_turned (defBody (at_ 5)) = true := by decide +kernel
theorem s_fraction_turned : FnScope ["one"] ["one"] (defScope (at_ 5)) := ⟨rfl, rfl, rfl, by decide +kernel, rfl, by decide +kernel, by decide +kernel⟩
/- 4: fraction_times(one, other); slots one, other -/
def b_fraction_times : List Stm :=
  [.ret (.call 1 [.bin .mul (.ix (.var 0) (.int 0)) (.ix (.var 1) (.int 0)), .bin .mul (.ix (.var 0) (.int 1)) (.ix (.var 1) (.int 1))])]
def x_fraction_times : DE.Ctx := ⟨defScope (at_ 6), ["one", "other"], none, [("fraction_of", 1)], [], false⟩
theorem k_fraction_times : chkB x_fraction_times b_fraction_times (defBody (at_ 6)) = true := by decide +kernel
theorem s_fraction_times : FnScope ["one", "other"] ["one", "other"] (defScope (at_ 6)) := ⟨rfl, rfl, rfl, by decide +kernel, rfl, by decide +kernel, by decide +kernel⟩
/- 5: fraction_by(one, other); slots one, other -/
def b_fraction_by : List Stm :=
  [.ret (.call 1 [.bin .mul (.ix (.var 0) (.int 0)) (.ix (.var 1) (.int 1)), .bin .mul (.ix (.var 0) (.int 1)) (.ix (.var 1) (.int 0))])]
def x_fraction_by : DE.Ctx := ⟨defScope (at_ 7), ["one", "other"], none, [("fraction_of", 1)], [], false⟩
theorem k_fraction_by : chkB x_fraction_by b_fraction_by (defBody (at_ 7)) = true := by decide +kernel
theorem s_fraction_by : FnScope ["one", "other"] ["one", "other"] (defScope (at_ 7)) := ⟨rfl, rfl, rfl, by decide +kernel, rfl, by decide +kernel, by decide +kernel⟩
/- 6: fraction_power(one, k); slots one, k, found, turn -/
def b_fraction_power : List Stm :=
  [.asg 2 (.tup [.int 1, .int 1]),
  .forS (.name 3) (.rng [.var 1])
    [.asg 2 (.call 4 [.var 2, .var 0])],
  .ret (.var 2)]
def x_fraction_power : DE.Ctx := ⟨defScope (at_ 8), ["one", "k", "found", "turn"], none, [("fraction_times", 4)], [], false⟩
theorem k_fraction_power : chkB x_fraction_power b_fraction_power (defBody (at_ 8)) = true := by decide +kernel
theorem s_fraction_power : FnScope ["one", "k", "found", "turn"] ["one", "k"] (defScope (at_ 8)) := ⟨rfl, rfl, rfl, by decide +kernel, rfl, by decide +kernel, by decide +kernel⟩
/- 7: number_power(a, k); slots a, k, found, turn -/
def b_number_power : List Stm :=
  [.asg 2 (.int 1),
  .forS (.name 3) (.rng [.var 1])
    [.asg 2 (.bin .mul (.var 2) (.var 0))],
  .ret (.var 2)]
def x_number_power : DE.Ctx := ⟨defScope (at_ 9), ["a", "k", "found", "turn"], none, [], [], false⟩
theorem k_number_power : chkB x_number_power b_number_power (defBody (at_ 9)) = true := by decide +kernel
theorem s_number_power : FnScope ["a", "k", "found", "turn"] ["a", "k"] (defScope (at_ 9)) := ⟨rfl, rfl, rfl, by decide +kernel, rfl, by decide +kernel, by decide +kernel⟩
/- 8: whole_root(number, k); slots number, k, low, high, middle -/
def b_whole_root : List Stm :=
  [.asgT (.tup [.name 2, .name 3]) (.tup [.int 0, .int 1]),
  .whl (.cmp .le (.call 7 [.var 3, .var 1]) (.var 0))
    [.asg 3 (.bin .mul (.int 2) (.var 3))],
  .whl (.cmp .gt (.bin .sub (.var 3) (.var 2)) (.int 1))
    [.asg 4 (.bin .fdiv (.bin .add (.var 2) (.var 3)) (.int 2)),
    .ifS (.cmp .le (.call 7 [.var 4, .var 1]) (.var 0))
      [.asg 2 (.var 4)]
      [.asg 3 (.var 4)]],
  .ret (.var 2)]
def x_whole_root : DE.Ctx := ⟨defScope (at_ 10), ["number", "k", "low", "high", "middle"], none, [("number_power", 7)], [], false⟩
theorem k_whole_root : chkB x_whole_root b_whole_root (defBody (at_ 10)) = true := by decide +kernel
theorem s_whole_root : FnScope ["number", "k", "low", "high", "middle"] ["number", "k"] (defScope (at_ 10)) := ⟨rfl, rfl, rfl, by decide +kernel, rfl, by decide +kernel, by decide +kernel⟩
/- 9: fraction_root(one, k); slots one, k, top, bottom -/
def b_fraction_root : List Stm :=
  [.ifS (.and (.cmp .lt (.ix (.var 0) (.int 0)) (.int 0)) (.cmp .eq (.bin .mod (.var 1) (.int 2)) (.int 0)))
    [.ret .non]
    [],
  .par [2, 3] [.call 8 [.blt .abs [.ix (.var 0) (.int 0)], .var 1], .call 8 [.ix (.var 0) (.int 1), .var 1]],
  .ifS (.or (.cmp .ne (.call 7 [.var 2, .var 1]) (.blt .abs [.ix (.var 0) (.int 0)])) (.cmp .ne (.call 7 [.var 3, .var 1]) (.ix (.var 0) (.int 1))))
    [.ret .non]
    [],
  .ret (.tup [.ite (.cmp .lt (.ix (.var 0) (.int 0)) (.int 0)) (.neg (.var 2)) (.var 2), .var 3])]
def x_fraction_root : DE.Ctx := ⟨defScope (at_ 11), ["one", "k", "top", "bottom"], none, [("whole_root", 8), ("number_power", 7)], [], false⟩
theorem k_fraction_root : chkB x_fraction_root b_fraction_root (defBody (at_ 11)) = true := by decide +kernel
theorem s_fraction_root : FnScope ["one", "k", "top", "bottom"] ["one", "k"] (defScope (at_ 11)) := ⟨rfl, rfl, rfl, by decide +kernel, rfl, by decide +kernel, by decide +kernel⟩
/- 10: poly_of(numbers); slots numbers, found -/
def b_poly_of : List Stm :=
  [.asg 1 (.blt .list [.var 0]),
  .whl (.and (.cmp .ne (.var 1) (.lst [])) (.cmp .eq (.ix (.var 1) (.neg (.int 1))) (.cst 0)))
    [.pop 1],
  .ret (.blt .tuple [.var 1])]
def x_poly_of : DE.Ctx := ⟨defScope (at_ 16), ["numbers", "found"], none, [], [("NONE", 0)], false⟩
theorem k_poly_of : chkB x_poly_of b_poly_of (defBody (at_ 16)) = true := by decide +kernel
theorem s_poly_of : FnScope ["numbers", "found"] ["numbers"] (defScope (at_ 16)) := ⟨rfl, rfl, rfl, by decide +kernel, rfl, by decide +kernel, by decide +kernel⟩
/- 11: degree_of(f); slots f -/
def b_degree_of : List Stm :=
  [.ret (.ite (.cmp .ne (.var 0) (.tup [])) (.bin .sub (.blt .len [.var 0]) (.int 1)) .non)]
def x_degree_of : DE.Ctx := ⟨defScope (at_ 17), ["f"], none, [], [], false⟩
theorem k_degree_of : chkB x_degree_of b_degree_of (defBody (at_ 17)) = true := by decide +kernel
theorem s_degree_of : FnScope ["f"] ["f"] (defScope (at_ 17)) := ⟨rfl, rfl, rfl, by decide +kernel, rfl, by decide +kernel, by decide +kernel⟩
/- 12: flat_of(c); slots c -/
def b_flat_of : List Stm :=
  [.ret (.call 10 [.lst [.var 0]])]
def x_flat_of : DE.Ctx := ⟨defScope (at_ 18), ["c"], none, [("poly_of", 10)], [], false⟩
theorem k_flat_of : chkB x_flat_of b_flat_of (defBody (at_ 18)) = true := by decide +kernel
theorem s_flat_of : FnScope ["c"] ["c"] (defScope (at_ 18)) := ⟨rfl, rfl, rfl, by decide +kernel, rfl, by decide +kernel, by decide +kernel⟩
/- 13: number_at(f, i); slots f, i -/
def b_number_at : List Stm :=
  [.ret (.ite (.cmp .lt (.var 1) (.blt .len [.var 0])) (.ix (.var 0) (.var 1)) (.cst 0))]
def x_number_at : DE.Ctx := ⟨defScope (at_ 19), ["f", "i"], none, [], [("NONE", 0)], false⟩
theorem k_number_at : chkB x_number_at b_number_at (defBody (at_ 19)) = true := by decide +kernel
theorem s_number_at : FnScope ["f", "i"] ["f", "i"] (defScope (at_ 19)) := ⟨rfl, rfl, rfl, by decide +kernel, rfl, by decide +kernel, by decide +kernel⟩
/- 14: poly_sum(f, g); slots f, g, i -/
def b_poly_sum : List Stm :=
  [.ret (.call 10 [.lc [2] (.name 2) (.rng [.blt .max [.blt .len [.var 0], .blt .len [.var 1]]]) .yes (.call 2 [.call 13 [.var 0, .var 2], .call 13 [.var 1, .var 2]])])]
def x_poly_sum : DE.Ctx := ⟨defScope (at_ 20), ["f", "g", "i"], none, [("poly_of", 10), ("fraction_sum", 2), ("number_at", 13)], [], false⟩
theorem k_poly_sum : chkB x_poly_sum b_poly_sum (defBody (at_ 20)) = true := by decide +kernel
theorem s_poly_sum : FnScope ["f", "g", "i"] ["f", "g"] (defScope (at_ 20)) := ⟨rfl, rfl, rfl, by decide +kernel, rfl, by decide +kernel, by decide +kernel⟩
/- 15: poly_often(c, f); slots c, f, a -/
def b_poly_often : List Stm :=
  [.ret (.call 10 [.lc [2] (.name 2) (.seq (.var 1)) .yes (.call 4 [.var 0, .var 2])])]
def x_poly_often : DE.Ctx := ⟨defScope (at_ 21), ["c", "f", "a"], none, [("poly_of", 10), ("fraction_times", 4)], [], false⟩
theorem k_poly_often : chkB x_poly_often b_poly_often (defBody (at_ 21)) = true := by decide +kernel
theorem s_poly_often : FnScope ["c", "f", "a"] ["c", "f"] (defScope (at_ 21)) := ⟨rfl, rfl, rfl, by decide +kernel, rfl, by decide +kernel, by decide +kernel⟩
/- 16: poly_less(f, g); slots f, g -/
def b_poly_less : List Stm :=
  [.ret (.call 14 [.var 0, .call 15 [.tup [.neg (.int 1), .int 1], .var 1]])]
def x_poly_less : DE.Ctx := ⟨defScope (at_ 22), ["f", "g"], none, [("poly_sum", 14), ("poly_often", 15)], [], false⟩
theorem k_poly_less : chkB x_poly_less b_poly_less (defBody (at_ 22)) = true := by decide +kernel
theorem s_poly_less : FnScope ["f", "g"] ["f", "g"] (defScope (at_ 22)) := ⟨rfl, rfl, rfl, by decide +kernel, rfl, by decide +kernel, by decide +kernel⟩
/- 17: whole_numbers(f); slots f, bottom, p, q -/
def b_whole_numbers : List Stm :=
  [.asg 1 (.int 1),
  .forS (.tup [.name 2, .name 3]) (.seq (.var 0))
    [.asg 1 (.bin .mul (.bin .fdiv (.var 1) (.call 0 [.var 1, .var 3])) (.var 3))],
  .ret (.tup [.var 1, .lc [2, 3] (.tup [.name 2, .name 3]) (.seq (.var 0)) .yes (.bin .mul (.var 2) (.bin .fdiv (.var 1) (.var 3)))])]
def x_whole_numbers : DE.Ctx := ⟨defScope (at_ 23), ["f", "bottom", "p", "q"], none, [("common_divisor", 0)], [], false⟩
theorem k_whole_numbers : chkB x_whole_numbers b_whole_numbers (defBody (at_ 23)) = true := by decide +kernel
theorem s_whole_numbers : FnScope ["f", "bottom", "p", "q"] ["f"] (defScope (at_ 23)) := ⟨rfl, rfl, rfl, by decide +kernel, rfl, by decide +kernel, by decide +kernel⟩
/- 18: poly_times(f, g); slots f, g, one, some, other, late, found, i, a, j, b -/
def b_poly_times : List Stm :=
  [.asgT (.tup [.tup [.name 2, .name 3], .tup [.name 4, .name 5]]) (.tup [.call 17 [.var 0], .call 17 [.var 1]]),
  .asg 6 (.bin .mul (.lst [.int 0]) (.bin .add (.blt .len [.var 0]) (.blt .len [.var 1]))),
  .forS (.tup [.name 7, .name 8]) (.enum (.var 3))
    [.forS (.tup [.name 9, .name 10]) (.enum (.var 5))
      [.setI 6 (.bin .add (.var 7) (.var 9)) (.bin .add (.ix (.var 6) (.bin .add (.var 7) (.var 9))) (.bin .mul (.var 8) (.var 10)))]],
  .ret (.call 10 [.lc [8] (.name 8) (.seq (.var 6)) .yes (.call 1 [.var 8, .bin .mul (.var 2) (.var 4)])])]
def x_poly_times : DE.Ctx := ⟨defScope (at_ 24), ["f", "g", "one", "some", "other", "late", "found", "i", "a", "j", "b"], none, [("whole_numbers", 17), ("poly_of", 10), ("fraction_of", 1)], [], false⟩
theorem k_poly_times : chkB x_poly_times b_poly_times (defBody (at_ 24)) = true := by decide +kernel
theorem s_poly_times : FnScope ["f", "g", "one", "some", "other", "late", "found", "i", "a", "j", "b"] ["f", "g"] (defScope (at_ 24)) := ⟨rfl, rfl, rfl, by decide +kernel, rfl, by decide +kernel, by decide +kernel⟩
/- 19: poly_within(g, h); slots g, h, found, c -/
def b_poly_within : List Stm :=
  [.asg 2 (.tup []),
  .forS (.name 3) (.seq (.rev (.var 0)))
    [.asg 2 (.call 14 [.call 18 [.var 2, .var 1], .call 12 [.var 3]])],
  .ret (.var 2)]
def x_poly_within : DE.Ctx := ⟨defScope (at_ 25), ["g", "h", "found", "c"], none, [("poly_sum", 14), ("poly_times", 18), ("flat_of", 12)], [], false⟩
theorem k_poly_within : chkB x_poly_within b_poly_within (defBody (at_ 25)) = true := by decide +kernel
theorem s_poly_within : FnScope ["g", "h", "found", "c"] ["g", "h"] (defScope (at_ 25)) := ⟨rfl, rfl, rfl, by decide +kernel, rfl, by decide +kernel, by decide +kernel⟩
/- 20: poly_divided(f, h); slots f, h, rest, found, k, often, i, a -/
def b_poly_divided : List Stm :=
  [.par [2, 3] [.blt .list [.var 0], .bin .mul (.lst [.cst 0]) (.blt .max [.int 0, .bin .add (.bin .sub (.blt .len [.var 0]) (.blt .len [.var 1])) (.int 1)])],
  .forS (.name 4) (.rng [.bin .sub (.blt .len [.var 3]) (.int 1), .neg (.int 1), .neg (.int 1)])
    [.asg 5 (.call 5 [.ix (.var 2) (.bin .sub (.bin .add (.var 4) (.blt .len [.var 1])) (.int 1)), .ix (.var 1) (.neg (.int 1))]),
    .setI 3 (.var 4) (.var 5),
    .forS (.tup [.name 6, .name 7]) (.enum (.var 1))
      [.setI 2 (.bin .add (.var 4) (.var 6)) (.call 2 [.ix (.var 2) (.bin .add (.var 4) (.var 6)), .call 4 [.tup [.neg (.ix (.var 5) (.int 0)), .ix (.var 5) (.int 1)], .var 7]])]],
  .ret (.tup [.call 10 [.var 3], .call 10 [.var 2]])]
def x_poly_divided : DE.Ctx := ⟨defScope (at_ 26), ["f", "h", "rest", "found", "k", "often", "i", "a"], none, [("fraction_by", 5), ("fraction_sum", 2), ("fraction_times", 4), ("poly_of", 10)], [("NONE", 0)], false⟩
theorem k_poly_divided : chkB x_poly_divided b_poly_divided (defBody (at_ 26)) = true := by decide +kernel
theorem s_poly_divided : FnScope ["f", "h", "rest", "found", "k", "often", "i", "a"] ["f", "h"] (defScope (at_ 26)) := ⟨rfl, rfl, rfl, by decide +kernel, rfl, by decide +kernel, by decide +kernel⟩
/- 21: normal_of(f); slots f, c, b -/
def b_normal_of : List Stm :=
  [.par [1, 2] [.ix (.var 0) (.neg (.int 1)), .ix (.var 0) (.int 0)],
  .ret (.tup [.var 1, .var 2, .call 15 [.call 5 [.cst 1, .var 1], .call 16 [.var 0, .call 12 [.var 2]]]])]
def x_normal_of : DE.Ctx := ⟨defScope (at_ 28), ["f", "c", "b"], none, [("poly_often", 15), ("fraction_by", 5), ("poly_less", 16), ("flat_of", 12)], [("ONE", 1)], false⟩
theorem k_normal_of : chkB x_normal_of b_normal_of (defBody (at_ 28)) = true := by decide +kernel
theorem s_normal_of : FnScope ["f", "c", "b"] ["f"] (defScope (at_ 28)) := ⟨rfl, rfl, rfl, by decide +kernel, rfl, by decide +kernel, by decide +kernel⟩
/- 22: falls_of(h); slots h -/
def b_falls_of : List Stm :=
  [.ret (.rev (.var 0))]
def x_falls_of : DE.Ctx := ⟨defScope (at_ 30), ["h"], none, [], [], false⟩
theorem k_falls_of : chkB x_falls_of b_falls_of (defBody (at_ 30)) = true := by decide +kernel
theorem s_falls_of : FnScope ["h"] ["h"] (defScope (at_ 30)) := ⟨rfl, rfl, rfl, by decide +kernel, rfl, by decide +kernel, by decide +kernel⟩
/- 23: falling_power(falls, p, q, t); slots falls, p, q, t, found, j, total, i, often -/
def b_falling_power : List Stm :=
  [.asg 4 (.lst [.cst 1]),
  .forS (.name 5) (.rng [.int 1, .var 3])
    [.asg 6 (.cst 0),
    .forS (.name 7) (.rng [.int 1, .bin .add (.blt .min [.var 5, .bin .sub (.blt .len [.var 0]) (.int 1)]) (.int 1)])
      [.asg 8 (.tup [.bin .sub (.bin .mul (.var 7) (.bin .add (.var 1) (.var 2))) (.bin .mul (.var 5) (.var 2)), .int 1]),
      .asg 6 (.call 2 [.var 6, .call 4 [.var 8, .call 4 [.ix (.var 0) (.var 7), .ix (.var 4) (.bin .sub (.var 5) (.var 7))]]])],
    .app 4 (.call 5 [.var 6, .tup [.bin .mul (.var 5) (.var 2), .int 1]])],
  .ret (.blt .tuple [.slH (.var 4) (.var 3)])]
def x_falling_power : DE.Ctx := ⟨defScope (at_ 31), ["falls", "p", "q", "t", "found", "j", "total", "i", "often"], none, [("fraction_sum", 2), ("fraction_times", 4), ("fraction_by", 5)], [("ONE", 1), ("NONE", 0)], false⟩
theorem k_falling_power : chkB x_falling_power b_falling_power (defBody (at_ 31)) = true := by decide +kernel
theorem s_falling_power : FnScope ["falls", "p", "q", "t", "found", "j", "total", "i", "often"] ["falls", "p", "q", "t"] (defScope (at_ 31)) := ⟨rfl, rfl, rfl, by decide +kernel, rfl, by decide +kernel, by decide +kernel⟩
/- 24: from_falls(numbers, m); slots numbers, m, late -/
def b_from_falls : List Stm :=
  [.asg 2 (.rev (.slH (.var 0) (.var 1))),
  .ret (.call 10 [.dsp false [false, true] [.cst 0, .var 2]])]
def x_from_falls : DE.Ctx := ⟨defScope (at_ 32), ["numbers", "m", "late"], none, [("poly_of", 10)], [("NONE", 0)], false⟩
theorem k_from_falls : chkB x_from_falls b_from_falls (defBody (at_ 32)) = true := by decide +kernel
theorem s_from_falls : FnScope ["numbers", "m", "late"] ["numbers", "m"] (defScope (at_ 32)) := ⟨rfl, rfl, rfl, by decide +kernel, rfl, by decide +kernel, by decide +kernel⟩
/- 25: candidate_of(f, m); slots f, m, n -/
def b_candidate_of : List Stm :=
  [.asg 2 (.call 11 [.var 0]),
  .ret (.call 24 [.call 23 [.call 22 [.ix (.call 21 [.var 0]) (.int 2)], .int 1, .bin .fdiv (.var 2) (.var 1), .var 1], .var 1])]
def x_candidate_of : DE.Ctx := ⟨defScope (at_ 33), ["f", "m", "n"], none, [("degree_of", 11), ("from_falls", 24), ("falling_power", 23), ("falls_of", 22), ("normal_of", 21)], [], false⟩
theorem k_candidate_of : chkB x_candidate_of b_candidate_of (defBody (at_ 33)) = true := by decide +kernel
theorem s_candidate_of : FnScope ["f", "m", "n"] ["f", "m"] (defScope (at_ 33)) := ⟨rfl, rfl, rfl, by decide +kernel, rfl, by decide +kernel, by decide +kernel⟩
/- 26: digits_of(f, h); slots f, h, found, rest -/
def b_digits_of : List Stm :=
  [.asg 2 (.lst []),
  .whl (.cmp .ne (.var 0) (.tup []))
    [.asgT (.tup [.name 0, .name 3]) (.call 20 [.var 0, .var 1]),
    .app 2 (.var 3)],
  .ret (.blt .tuple [.var 2])]
def x_digits_of : DE.Ctx := ⟨defScope (at_ 35), ["f", "h", "found", "rest"], none, [("poly_divided", 20)], [], false⟩
theorem k_digits_of : chkB x_digits_of b_digits_of (defBody (at_ 35)) = true := by decide +kernel
theorem s_digits_of : FnScope ["f", "h", "found", "rest"] ["f", "h"] (defScope (at_ 35)) := ⟨rfl, rfl, rfl, by decide +kernel, rfl, by decide +kernel, by decide +kernel⟩
/- 27: is_flat(f); slots f -/
def b_is_flat : List Stm :=
  [.ret (.cmp .lt (.blt .len [.var 0]) (.int 2))]
def x_is_flat : DE.Ctx := ⟨defScope (at_ 36), ["f"], none, [], [], false⟩
theorem k_is_flat : chkB x_is_flat b_is_flat (defBody (at_ 36)) = true := by decide +kernel
theorem s_is_flat : FnScope ["f"] ["f"] (defScope (at_ 36)) := ⟨rfl, rfl, rfl, by decide +kernel, rfl, by decide +kernel, by decide +kernel⟩
/- 28: are_fraction_digits(digits); slots digits, digit -/
def b_are_fraction_digits : List Stm :=
  [.ret (.blt .all [.lc [1] (.name 1) (.seq (.var 0)) .yes (.call 27 [.var 1])])]
def x_are_fraction_digits : DE.Ctx := ⟨defScope (at_ 37), ["digits", "digit"], none, [("is_flat", 27)], [], false⟩
theorem k_are_fraction_digits : chkB x_are_fraction_digits b_are_fraction_digits (defBody (at_ 37)) = true := by decide +kernel
theorem s_are_fraction_digits : FnScope ["digits", "digit"] ["digits"] (defScope (at_ 37)) := ⟨rfl, rfl, rfl, by decide +kernel, rfl, by decide +kernel, by decide +kernel⟩
/- 29: outer_part(f, h); slots f, h, digits, digit -/
def b_outer_part : List Stm :=
  [.asg 2 (.call 26 [.var 0, .var 1]),
  .ret (.ite (.call 28 [.var 2]) (.call 10 [.lc [3] (.name 3) (.seq (.var 2)) .yes (.call 13 [.var 3, .int 0])]) .non)]
def x_outer_part : DE.Ctx := ⟨defScope (at_ 38), ["f", "h", "digits", "digit"], none, [("digits_of", 26), ("are_fraction_digits", 28), ("poly_of", 10), ("number_at", 13)], [], false⟩
theorem k_outer_part : chkB x_outer_part b_outer_part (defBody (at_ 38)) = true := by decide +kernel
theorem s_outer_part : FnScope ["f", "h", "digits", "digit"] ["f", "h"] (defScope (at_ 38)) := ⟨rfl, rfl, rfl, by decide +kernel, rfl, by decide +kernel, by decide +kernel⟩
/- 30: inner_part(f, m); slots f, m, h -/
def b_inner_part : List Stm :=
  [.ifS (.cmp .ne (.bin .mod (.call 11 [.var 0]) (.var 1)) (.int 0))
    [.ret .non]
    [],
  .asg 2 (.call 25 [.var 0, .var 1]),
  .ret (.ite (.cmp .isn (.call 29 [.var 0, .var 2]) .non) (.var 2) .non)]
def x_inner_part : DE.Ctx := ⟨defScope (at_ 39), ["f", "m", "h"], none, [("degree_of", 11), ("candidate_of", 25), ("outer_part", 29)], [], false⟩
theorem k_inner_part : chkB x_inner_part b_inner_part (defBody (at_ 39)) = true := by decide +kernel
theorem s_inner_part : FnScope ["f", "m", "h"] ["f", "m"] (defScope (at_ 39)) := ⟨rfl, rfl, rfl, by decide +kernel, rfl, by decide +kernel, by decide +kernel⟩
/- 31: repeated(g, k); slots g, k, found, turn -/
def b_repeated : List Stm :=
  [.asg 2 (.cst 2),
  .forS (.name 3) (.rng [.var 1])
    [.asg 2 (.call 19 [.var 0, .var 2])],
  .ret (.var 2)]
def x_repeated : DE.Ctx := ⟨defScope (at_ 41), ["g", "k", "found", "turn"], none, [("poly_within", 19)], [("X", 2)], false⟩
theorem k_repeated : chkB x_repeated b_repeated (defBody (at_ 41)) = true := by decide +kernel
theorem s_repeated : FnScope ["g", "k", "found", "turn"] ["g", "k"] (defScope (at_ 41)) := ⟨rfl, rfl, rfl, by decide +kernel, rfl, by decide +kernel, by decide +kernel⟩
/- 32: repeat_degree(n, k); slots n, k, d -/
def b_repeat_degree : List Stm :=
  [.forS (.name 2) (.rng [.int 2, .bin .add (.var 0) (.int 1)])
    [.ifS (.cmp .eq (.call 7 [.var 2, .var 1]) (.var 0))
      [.ret (.var 2)]
      []],
  .ret .non]
def x_repeat_degree : DE.Ctx := ⟨defScope (at_ 42), ["n", "k", "d"], none, [("number_power", 7)], [], false⟩
theorem k_repeat_degree : chkB x_repeat_degree b_repeat_degree (defBody (at_ 42)) = true := by decide +kernel
theorem s_repeat_degree : FnScope ["n", "k", "d"] ["n", "k"] (defScope (at_ 42)) := ⟨rfl, rfl, rfl, by decide +kernel, rfl, by decide +kernel, by decide +kernel⟩
/- 33: repeat_count(d, k); slots d, k, i -/
def b_repeat_count : List Stm :=
  [.ret (.blt .sum [.lc [2] (.name 2) (.rng [.var 1]) .yes (.call 7 [.var 0, .var 2])])]
def x_repeat_count : DE.Ctx := ⟨defScope (at_ 43), ["d", "k", "i"], none, [("number_power", 7)], [], false⟩
theorem k_repeat_count : chkB x_repeat_count b_repeat_count (defBody (at_ 43)) = true := by decide +kernel
theorem s_repeat_count : FnScope ["d", "k", "i"] ["d", "k"] (defScope (at_ 43)) := ⟨rfl, rfl, rfl, by decide +kernel, rfl, by decide +kernel, by decide +kernel⟩
/- 34: roots_of(c, count); slots c, count, root -/
def b_roots_of : List Stm :=
  [.asg 2 (.call 9 [.var 0, .var 1]),
  .ifS (.cmp .is (.var 2) .non)
    [.ret (.tup [])]
    [],
  .ret (.ite (.cmp .eq (.bin .mod (.var 1) (.int 2)) (.int 1)) (.tup [.var 2]) (.tup [.call 3 [.var 2], .var 2]))]
def x_roots_of : DE.Ctx := ⟨defScope (at_ 44), ["c", "count", "root"], none, [("fraction_root", 9), ("fraction_turned", 3)], [], false⟩
theorem k_roots_of : chkB x_roots_of b_roots_of (defBody (at_ 44)) = true := by decide +kernel
theorem s_roots_of : FnScope ["c", "count", "root"] ["c", "count"] (defScope (at_ 44)) := ⟨rfl, rfl, rfl, by decide +kernel, rfl, by decide +kernel, by decide +kernel⟩
/- 35: _law_open_cells(script); slots script, stirred, cell, cells -/
def b__law_open_cells : List Stm :=
  [.asg 1 (.int 11),
  .forS (.name 2) (.scr 0)
    [.asg 1 (.bin .mod (.blt .int [.bin .add (.bin .add (.bin .mul (.var 1) (.int 69069)) (.bin .mul (.var 2) (.int 31))) (.int 5)]) (.int 2147483629))],
  .asg 3 (.lc [2] (.name 2) (.scr 0) .yes (.blt .abs [.var 2])),
  .rsrc (.rev (.var 3)) (.int 1) (.var 1) (.int 0)]
def x__law_open_cells : DE.Ctx := ⟨defScope (at_ 46), ["script", "stirred", "cell", "cells"], none, [], [], false⟩
theorem k__law_open_cells : chkB x__law_open_cells b__law_open_cells (defBody (at_ 46)) = true := by decide +kernel
theorem s__law_open_cells : FnScope ["script", "stirred", "cell", "cells"] ["script"] (defScope (at_ 46)) := ⟨rfl, rfl, rfl, by decide +kernel, rfl, by decide +kernel, by decide +kernel⟩
/- 36: _law_pick(source, most); slots source, most, cells, others, lap, stirred -/
def b__law_pick : List Stm :=
  [.ifS (.cmp .lt (.var 1) (.int 2))
    [.ret (.int 0)]
    [],
  .scel 2 0,
  .whl (.and (.cmp .lt (.sfld 0 .left) (.int 2)) (.cmp .gt (.clen 2) (.int 0)))
    [.cpop 0 2],
  .asg 3 (.sfld 0 .left),
  .ifS (.cmp .gt (.var 3) (.int 1))
    [.sset 0 .left (.bin .fdiv (.var 3) (.var 1)),
    .ret (.bin .mod (.blt .int [.var 3]) (.var 1))]
    [],
  .sset 0 .turn (.bin .add (.sfld 0 .turn) (.int 1)),
  .asg 4 (.sfld 0 .turn),
  .asg 5 (.bin .mod (.blt .int [.bin .add (.sfld 0 .mixed) (.bin .mul (.var 4) (.int 104729))]) (.int 998244353)),
  .asg 5 (.bin .mod (.blt .int [.bin .add (.bin .mul (.var 5) (.var 5)) (.bin .mul (.var 4) (.int 17))]) (.int 2147483647)),
  .ret (.bin .mod (.blt .int [.bin .fdiv (.var 5) (.int 16)]) (.var 1))]
def x__law_pick : DE.Ctx := ⟨defScope (at_ 47), ["source", "most", "cells", "others", "lap", "stirred"], none, [], [], false⟩
theorem k__law_pick : chkB x__law_pick b__law_pick (defBody (at_ 47)) = true := by decide +kernel
theorem s__law_pick : FnScope ["source", "most", "cells", "others", "lap", "stirred"] ["source", "most"] (defScope (at_ 47)) := ⟨rfl, rfl, rfl, by decide +kernel, rfl, by decide +kernel, by decide +kernel⟩
/- 37: _law_of(source, some); slots source, some -/
def b__law_of : List Stm :=
  [.ret (.ix (.var 1) (.call 36 [.var 0, .blt .len [.var 1]]))]
def x__law_of : DE.Ctx := ⟨defScope (at_ 48), ["source", "some"], none, [("_law_pick", 36)], [], false⟩
theorem k__law_of : chkB x__law_of b__law_of (defBody (at_ 48)) = true := by decide +kernel
theorem s__law_of : FnScope ["source", "some"] ["source", "some"] (defScope (at_ 48)) := ⟨rfl, rfl, rfl, by decide +kernel, rfl, by decide +kernel, by decide +kernel⟩
/- 38: _law_low(p, q); slots p, q, a, b -/
def b__law_low : List Stm :=
  [.par [2, 3] [.blt .abs [.var 0], .blt .abs [.var 1]],
  .whl (.cmp .gt (.var 3) (.int 0))
    [.par [2, 3] [.var 3, .bin .mod (.blt .int [.var 2]) (.var 3)]],
  .ret (.ite (.cmp .gt (.var 1) (.int 0)) (.tup [.bin .fdiv (.var 0) (.var 2), .bin .fdiv (.var 1) (.var 2)]) (.tup [.bin .fdiv (.bin .sub (.int 0) (.var 0)) (.var 2), .bin .fdiv (.bin .sub (.int 0) (.var 1)) (.var 2)]))]
def x__law_low : DE.Ctx := ⟨defScope (at_ 49), ["p", "q", "a", "b"], none, [], [], false⟩
theorem k__law_low : chkB x__law_low b__law_low (defBody (at_ 49)) = true := by decide +kernel
theorem s__law_low : FnScope ["p", "q", "a", "b"] ["p", "q"] (defScope (at_ 49)) := ⟨rfl, rfl, rfl, by decide +kernel, rfl, by decide +kernel, by decide +kernel⟩
/- 39: _law_add(one, other); slots one, other -/
def b__law_add : List Stm :=
  [.ret (.call 38 [.bin .add (.bin .mul (.ix (.var 0) (.int 0)) (.ix (.var 1) (.int 1))) (.bin .mul (.ix (.var 1) (.int 0)) (.ix (.var 0) (.int 1))), .bin .mul (.ix (.var 0) (.int 1)) (.ix (.var 1) (.int 1))])]
def x__law_add : DE.Ctx := ⟨defScope (at_ 50), ["one", "other"], none, [("_law_low", 38)], [], false⟩
theorem k__law_add : chkB x__law_add b__law_add (defBody (at_ 50)) = true := by decide +kernel
theorem s__law_add : FnScope ["one", "other"] ["one", "other"] (defScope (at_ 50)) := ⟨rfl, rfl, rfl, by decide +kernel, rfl, by decide +kernel, by decide +kernel⟩
/- 40: _law_mul(one, other); slots one, other -/
def b__law_mul : List Stm :=
  [.ret (.call 38 [.bin .mul (.ix (.var 0) (.int 0)) (.ix (.var 1) (.int 0)), .bin .mul (.ix (.var 0) (.int 1)) (.ix (.var 1) (.int 1))])]
def x__law_mul : DE.Ctx := ⟨defScope (at_ 51), ["one", "other"], none, [("_law_low", 38)], [], false⟩
theorem k__law_mul : chkB x__law_mul b__law_mul (defBody (at_ 51)) = true := by decide +kernel
theorem s__law_mul : FnScope ["one", "other"] ["one", "other"] (defScope (at_ 51)) := ⟨rfl, rfl, rfl, by decide +kernel, rfl, by decide +kernel, by decide +kernel⟩
/- 41: _law_cut(numbers); slots numbers, found -/
def b__law_cut : List Stm :=
  [.asg 1 (.blt .list [.var 0]),
  .whl (.and (.cmp .ne (.var 1) (.lst [])) (.cmp .eq (.ix (.ix (.var 1) (.neg (.int 1))) (.int 0)) (.int 0)))
    [.pop 1],
  .ret (.blt .tuple [.var 1])]
def x__law_cut : DE.Ctx := ⟨defScope (at_ 52), ["numbers", "found"], none, [], [], false⟩
theorem k__law_cut : chkB x__law_cut b__law_cut (defBody (at_ 52)) = true := by decide +kernel
theorem s__law_cut : FnScope ["numbers", "found"] ["numbers"] (defScope (at_ 52)) := ⟨rfl, rfl, rfl, by decide +kernel, rfl, by decide +kernel, by decide +kernel⟩
/- 42: _law_plus(f, g); slots f, g, many, one, other, a, b -/
def b__law_plus : List Stm :=
  [.asg 2 (.blt .max [.blt .len [.var 0], .blt .len [.var 1]]),
  .par [3, 4] [.bin .add (.blt .list [.var 0]) (.bin .mul (.lst [.tup [.int 0, .int 1]]) (.bin .sub (.var 2) (.blt .len [.var 0]))), .bin .add (.blt .list [.var 1]) (.bin .mul (.lst [.tup [.int 0, .int 1]]) (.bin .sub (.var 2) (.blt .len [.var 1])))],
  .ret (.call 41 [.lc [5, 6] (.tup [.name 5, .name 6]) (.zip (.var 3) (.var 4)) .yes (.call 39 [.var 5, .var 6])])]
def x__law_plus : DE.Ctx := ⟨defScope (at_ 53), ["f", "g", "many", "one", "other", "a", "b"], none, [("_law_cut", 41), ("_law_add", 39)], [], false⟩
theorem k__law_plus : chkB x__law_plus b__law_plus (defBody (at_ 53)) = true := by decide +kernel
theorem s__law_plus : FnScope ["f", "g", "many", "one", "other", "a", "b"] ["f", "g"] (defScope (at_ 53)) := ⟨rfl, rfl, rfl, by decide +kernel, rfl, by decide +kernel, by decide +kernel⟩
/- 43: _law_product(f, g); slots f, g, found, i, total, j -/
def b__law_product : List Stm :=
  [.asg 2 (.lst []),
  .forS (.name 3) (.rng [.ite (.and (.cmp .ne (.var 0) (.tup [])) (.cmp .ne (.var 1) (.tup []))) (.bin .sub (.bin .add (.blt .len [.var 0]) (.blt .len [.var 1])) (.int 1)) (.int 0)])
    [.asg 4 (.tup [.int 0, .int 1]),
    .forS (.name 5) (.rng [.blt .max [.int 0, .bin .add (.bin .sub (.var 3) (.blt .len [.var 1])) (.int 1)], .blt .min [.bin .add (.var 3) (.int 1), .blt .len [.var 0]]])
      [.asg 4 (.call 39 [.var 4, .call 40 [.ix (.var 0) (.var 5), .ix (.var 1) (.bin .sub (.var 3) (.var 5))]])],
    .app 2 (.var 4)],
  .ret (.call 41 [.var 2])]
def x__law_product : DE.Ctx := ⟨defScope (at_ 54), ["f", "g", "found", "i", "total", "j"], none, [("_law_add", 39), ("_law_mul", 40), ("_law_cut", 41)], [], false⟩
theorem k__law_product : chkB x__law_product b__law_product (defBody (at_ 54)) = true := by decide +kernel
theorem s__law_product : FnScope ["f", "g", "found", "i", "total", "j"] ["f", "g"] (defScope (at_ 54)) := ⟨rfl, rfl, rfl, by decide +kernel, rfl, by decide +kernel, by decide +kernel⟩
/- 44: _law_put(g, h); slots g, h, found, c -/
def b__law_put : List Stm :=
  [.asg 2 (.tup []),
  .forS (.name 3) (.seq (.rev (.var 0)))
    [.asg 2 (.call 42 [.call 43 [.var 2, .var 1], .call 41 [.lst [.var 3]]])],
  .ret (.var 2)]
def x__law_put : DE.Ctx := ⟨defScope (at_ 55), ["g", "h", "found", "c"], none, [("_law_plus", 42), ("_law_product", 43), ("_law_cut", 41)], [], false⟩
theorem k__law_put : chkB x__law_put b__law_put (defBody (at_ 55)) = true := by decide +kernel
theorem s__law_put : FnScope ["g", "h", "found", "c"] ["g", "h"] (defScope (at_ 55)) := ⟨rfl, rfl, rfl, by decide +kernel, rfl, by decide +kernel, by decide +kernel⟩
/- 45: _law_fraction(source, far, bottom); slots source, far, bottom -/
def b__law_fraction : List Stm :=
  [.ret (.call 38 [.bin .sub (.call 36 [.var 0, .bin .add (.bin .mul (.int 2) (.var 1)) (.int 1)]) (.var 1), .bin .add (.int 1) (.call 36 [.var 0, .var 2])])]
def x__law_fraction : DE.Ctx := ⟨defScope (at_ 56), ["source", "far", "bottom"], none, [("_law_low", 38), ("_law_pick", 36)], [], false⟩
theorem k__law_fraction : chkB x__law_fraction b__law_fraction (defBody (at_ 56)) = true := by decide +kernel
theorem s__law_fraction : FnScope ["source", "far", "bottom"] ["source", "far", "bottom"] (defScope (at_ 56)) := ⟨rfl, rfl, rfl, by decide +kernel, rfl, by decide +kernel, by decide +kernel⟩
/- 46: _law_poly(source, n, far, bottom); slots source, n, far, bottom, last, numbers, i -/
def b__law_poly : List Stm :=
  [.asg 4 (.call 45 [.var 0, .var 2, .var 3]),
  .asg 5 (.lc [6] (.name 6) (.rng [.var 1]) .yes (.call 45 [.var 0, .var 2, .var 3])),
  .ret (.blt .tuple [.bin .add (.var 5) (.lst [.ite (.cmp .ne (.ix (.var 4) (.int 0)) (.int 0)) (.var 4) (.tup [.int 1, .int 1])])])]
def x__law_poly : DE.Ctx := ⟨defScope (at_ 57), ["source", "n", "far", "bottom", "last", "numbers", "i"], none, [("_law_fraction", 45)], [], false⟩
theorem k__law_poly : chkB x__law_poly b__law_poly (defBody (at_ 57)) = true := by decide +kernel
theorem s__law_poly : FnScope ["source", "n", "far", "bottom", "last", "numbers", "i"] ["source", "n", "far", "bottom"] (defScope (at_ 57)) := ⟨rfl, rfl, rfl, by decide +kernel, rfl, by decide +kernel, by decide +kernel⟩
/- 47: _law_repeat(g, k); slots g, k, found, turn -/
def b__law_repeat : List Stm :=
  [.asg 2 (.tup [.tup [.int 0, .int 1], .tup [.int 1, .int 1]]),
  .forS (.name 3) (.rng [.var 1])
    [.asg 2 (.call 44 [.var 0, .var 2])],
  .ret (.var 2)]
def x__law_repeat : DE.Ctx := ⟨defScope (at_ 58), ["g", "k", "found", "turn"], none, [("_law_put", 44)], [], false⟩
theorem k__law_repeat : chkB x__law_repeat b__law_repeat (defBody (at_ 58)) = true := by decide +kernel
theorem s__law_repeat : FnScope ["g", "k", "found", "turn"] ["g", "k"] (defScope (at_ 58)) := ⟨rfl, rfl, rfl, by decide +kernel, rfl, by decide +kernel, by decide +kernel⟩
/- 48: _law_number_power(a, k); slots a, k, found, turn -/
def b__law_number_power : List Stm :=
  [.asg 2 (.int 1),
  .forS (.name 3) (.rng [.var 1])
    [.asg 2 (.bin .mul (.var 2) (.var 0))],
  .ret (.var 2)]
def x__law_number_power : DE.Ctx := ⟨defScope (at_ 59), ["a", "k", "found", "turn"], none, [], [], false⟩
theorem k__law_number_power : chkB x__law_number_power b__law_number_power (defBody (at_ 59)) = true := by decide +kernel
theorem s__law_number_power : FnScope ["a", "k", "found", "turn"] ["a", "k"] (defScope (at_ 59)) := ⟨rfl, rfl, rfl, by decide +kernel, rfl, by decide +kernel, by decide +kernel⟩
/- 49: _law_exact_root(number, k); slots number, k, low, high, middle -/
def b__law_exact_root : List Stm :=
  [.asgT (.tup [.name 2, .name 3]) (.tup [.int 1, .int 2]),
  .whl (.cmp .le (.call 48 [.var 3, .var 1]) (.var 0))
    [.par [2, 3] [.var 3, .bin .mul (.int 2) (.var 3)]],
  .whl (.cmp .gt (.bin .sub (.var 3) (.var 2)) (.int 1))
    [.asg 4 (.bin .fdiv (.bin .add (.var 2) (.var 3)) (.int 2)),
    .asgT (.tup [.name 2, .name 3]) (.ite (.cmp .le (.call 48 [.var 4, .var 1]) (.var 0)) (.tup [.var 4, .var 3]) (.tup [.var 2, .var 4]))],
  .ret (.ite (.cmp .eq (.call 48 [.var 2, .var 1]) (.var 0)) (.var 2) .non)]
def x__law_exact_root : DE.Ctx := ⟨defScope (at_ 60), ["number", "k", "low", "high", "middle"], none, [("_law_number_power", 48)], [], false⟩
theorem k__law_exact_root : chkB x__law_exact_root b__law_exact_root (defBody (at_ 60)) = true := by decide +kernel
theorem s__law_exact_root : FnScope ["number", "k", "low", "high", "middle"] ["number", "k"] (defScope (at_ 60)) := ⟨rfl, rfl, rfl, by decide +kernel, rfl, by decide +kernel, by decide +kernel⟩
/- 50: _law_roots(c, count); slots c, count, top, bottom -/
def b__law_roots : List Stm :=
  [.par [2, 3] [.call 49 [.blt .abs [.ix (.var 0) (.int 0)], .var 1], .call 49 [.ix (.var 0) (.int 1), .var 1]],
  .ifS (.or (.cmp .is (.var 2) .non) (.or (.cmp .is (.var 3) .non) (.and (.cmp .lt (.ix (.var 0) (.int 0)) (.int 0)) (.cmp .eq (.bin .mod (.blt .int [.var 1]) (.int 2)) (.int 0)))))
    [.ret (.tup [])]
    [],
  .ifS (.cmp .eq (.bin .mod (.blt .int [.var 1]) (.int 2)) (.int 0))
    [.ret (.tup [.tup [.bin .sub (.int 0) (.var 2), .var 3], .tup [.var 2, .var 3]])]
    [],
  .ret (.tup [.tup [.ite (.cmp .gt (.ix (.var 0) (.int 0)) (.int 0)) (.var 2) (.bin .sub (.int 0) (.var 2)), .var 3]])]
def x__law_roots : DE.Ctx := ⟨defScope (at_ 61), ["c", "count", "top", "bottom"], none, [("_law_exact_root", 49)], [], false⟩
theorem k__law_roots : chkB x__law_roots b__law_roots (defBody (at_ 61)) = true := by decide +kernel
theorem s__law_roots : FnScope ["c", "count", "top", "bottom"] ["c", "count"] (defScope (at_ 61)) := ⟨rfl, rfl, rfl, by decide +kernel, rfl, by decide +kernel, by decide +kernel⟩
/- 51: _law_degree_root(n, k); slots n, k, found, d -/
def b__law_degree_root : List Stm :=
  [.asg 2 (.lc [3] (.name 3) (.rng [.int 2, .bin .add (.var 0) (.int 1)]) (.cmp .eq (.call 48 [.var 3, .var 1]) (.var 0)) (.var 3)),
  .ret (.ite (.cmp .ne (.var 2) (.lst [])) (.ix (.var 2) (.int 0)) .non)]
def x__law_degree_root : DE.Ctx := ⟨defScope (at_ 62), ["n", "k", "found", "d"], none, [("_law_number_power", 48)], [], false⟩
theorem k__law_degree_root : chkB x__law_degree_root b__law_degree_root (defBody (at_ 62)) = true := by decide +kernel
theorem s__law_degree_root : FnScope ["n", "k", "found", "d"] ["n", "k"] (defScope (at_ 62)) := ⟨rfl, rfl, rfl, by decide +kernel, rfl, by decide +kernel, by decide +kernel⟩
/- 52: law(script); slots script, source, lap, count, far, one, power, more, c, d, k, n, due, rows, l, g, other, both, last, turn, size, outer, i -/
def b_law : List Stm :=
  [.asg 1 (.call 35 [.var 0]),
  .forS (.name 2) (.rng [.int 6])
    [.par [3, 4] [.bin .add (.int 1) (.call 36 [.var 1, .ix (.lst [.int 4, .int 7, .int 12, .int 20, .int 40, .int 60]) (.var 2)]), .call 37 [.var 1, .lst [.int 5, .int 40, .int 1000]]],
    .asg 5 (.call 45 [.var 1, .var 4, .var 4]),
    .asg 5 (.ite (.cmp .ne (.ix (.var 5) (.int 0)) (.int 0)) (.var 5) (.tup [.neg (.int 1), .int 2])),
    .asg 6 (.call 6 [.var 5, .var 3]),
    .ifS (.cmp .ne (.blt .repr [.var 6]) (.blt .repr [.tup [.call 48 [.ix (.var 5) (.int 0), .var 3], .call 48 [.ix (.var 5) (.int 1), .var 3]]]))
      [.ret (.bl false)]
      [],
    .asg 7 (.call 37 [.var 1, .lst [.tup [.bin .add (.ix (.var 6) (.int 0)) (.int 1), .ix (.var 6) (.int 1)], .tup [.bin .sub (.int 0) (.ix (.var 6) (.int 0)), .ix (.var 6) (.int 1)], .tup [.ix (.var 6) (.int 1), .ix (.var 6) (.int 0)], .tup [.int 2, .int 1]]]),
    .asg 7 (.ite (.cmp .ne (.ix (.var 7) (.int 0)) (.int 0)) (.call 38 [.ix (.var 7) (.int 0), .ix (.var 7) (.int 1)]) (.tup [.int 1, .int 1])),
    .forS (.name 8) (.seq (.tup [.var 6, .var 7, .var 5]))
      [.ifS (.cmp .ne (.blt .repr [.call 34 [.var 8, .var 3]]) (.blt .repr [.call 50 [.var 8, .var 3]]))
        [.ret (.bl false)]
        []],
    .ifS (.cmp .nmem (.var 5) (.call 34 [.var 6, .var 3]))
      [.ret (.bl false)]
      []],
  .forS (.name 2) (.rng [.int 8])
    [.asgT (.tup [.name 9, .name 10]) (.tup [.bin .add (.int 2) (.call 36 [.var 1, .int 9]), .bin .add (.int 2) (.call 36 [.var 1, .int 3])]),
    .asg 11 (.call 37 [.var 1, .lst [.call 48 [.var 9, .var 10], .bin .add (.int 1) (.call 36 [.var 1, .int 200])]]),
    .ifS (.cmp .ne (.blt .repr [.call 32 [.var 11, .var 10]]) (.blt .repr [.call 51 [.var 11, .var 10]]))
      [.ret (.bl false)]
      [],
    .asg 12 (.blt .sum [.lc [22] (.name 22) (.rng [.var 10]) .yes (.call 48 [.var 9, .var 22])]),
    .ifS (.or (.cmp .ne (.blt .repr [.call 33 [.var 9, .var 10]]) (.blt .repr [.var 12])) (.cmp .ne (.bin .mul (.bin .sub (.var 9) (.int 1)) (.var 12)) (.bin .sub (.call 7 [.var 9, .var 10]) (.int 1))))
      [.ret (.bl false)]
      []],
  .forS (.name 2) (.rng [.int 3])
    [.asg 13 (.lst [.lst [.tup [.int 2, .int 1, .int 2], .tup [.int 3, .int 1, .int 1], .tup [.int 2, .int 2, .int 1]], .lst [.tup [.int 2, .int 1, .int 3], .tup [.int 2, .int 2, .int 2]], .lst [.tup [.int 3, .int 2, .int 1], .tup [.int 3, .int 1, .int 2]]]),
    .asgT (.tup [.name 9, .name 10, .name 14]) (.call 37 [.var 1, .ix (.var 13) (.var 2)]),
    .asg 15 (.call 46 [.var 1, .var 9, .ix (.lst [.int 4, .int 1, .int 2]) (.var 2), .ix (.lst [.int 2, .int 1, .int 1]) (.var 2)]),
    .par [5, 16, 17] [.call 31 [.var 15, .var 10], .call 31 [.var 15, .var 14], .call 31 [.var 15, .bin .add (.var 10) (.var 14)]],
    .ifS (.cmp .ne (.blt .repr [.lst [.var 5, .var 16, .var 17]]) (.blt .repr [.lst [.call 47 [.var 15, .var 10], .call 47 [.var 15, .var 14], .call 47 [.var 15, .bin .add (.var 10) (.var 14)]]]))
      [.ret (.bl false)]
      [],
    .ifS (.cmp .ne (.blt .repr [.lst [.call 19 [.var 5, .var 16], .call 19 [.var 16, .var 5]]]) (.blt .repr [.lst [.var 17, .var 17]]))
      [.ret (.bl false)]
      [],
    .ifS (.or (.cmp .ne (.blt .repr [.call 31 [.var 5, .var 14]]) (.blt .repr [.call 31 [.var 15, .bin .mul (.var 10) (.var 14)]])) (.cmp .ne (.call 31 [.var 15, .int 0]) (.tup [.tup [.int 0, .int 1], .tup [.int 1, .int 1]])))
      [.ret (.bl false)]
      [],
    .par [12, 18] [.call 33 [.var 9, .var 10], .tup [.int 1, .int 1]],
    .forS (.name 19) (.rng [.var 12])
      [.asg 18 (.call 40 [.var 18, .ix (.var 15) (.neg (.int 1))])],
    .ifS (.or (.cmp .ne (.ix (.var 5) (.neg (.int 1))) (.var 18)) (.cmp .ne (.call 11 [.var 5]) (.call 48 [.var 9, .var 10])))
      [.ret (.bl false)]
      [],
    .asg 20 (.call 48 [.var 9, .var 14]),
    .ifS (.cmp .ne (.blt .repr [.call 30 [.var 17, .var 20]]) (.blt .repr [.ix (.call 21 [.var 16]) (.int 2)]))
      [.ret (.bl false)]
      [],
    .asg 21 (.call 29 [.var 17, .ix (.call 21 [.var 16]) (.int 2)]),
    .ifS (.cmp .ne (.blt .repr [.var 21]) (.blt .repr [.call 44 [.var 5, .call 41 [.lst [.ix (.var 16) (.int 0), .ix (.var 16) (.neg (.int 1))]]]]))
      [.ret (.bl false)]
      []],
  .ret (.and (.cmp .eq (.call 34 [.tup [.int 4, .int 9], .int 2]) (.tup [.tup [.neg (.int 2), .int 3], .tup [.int 2, .int 3]])) (.cmp .eq (.call 34 [.tup [.neg (.int 4), .int 9], .int 2]) (.tup [])))]
def x_law : DE.Ctx := ⟨defScope (at_ 63), ["script", "source", "lap", "count", "far", "one", "power", "more", "c", "d", "k", "n", "due", "rows", "l", "g", "other", "both", "last", "turn", "size", "outer", "i"], none, [("_law_open_cells", 35), ("_law_pick", 36), ("_law_of", 37), ("_law_fraction", 45), ("fraction_power", 6), ("_law_number_power", 48), ("_law_low", 38), ("roots_of", 34), ("_law_roots", 50), ("repeat_degree", 32), ("_law_degree_root", 51), ("number_power", 7), ("repeat_count", 33), ("_law_poly", 46), ("repeated", 31), ("_law_repeat", 47), ("poly_within", 19), ("_law_mul", 40), ("degree_of", 11), ("inner_part", 30), ("normal_of", 21), ("outer_part", 29), ("_law_put", 44), ("_law_cut", 41)], [], false⟩
theorem k_law : chkB x_law b_law (defBody (at_ 63)) = true := by decide +kernel
theorem s_law : FnScope ["script", "source", "lap", "count", "far", "one", "power", "more", "c", "d", "k", "n", "due", "rows", "l", "g", "other", "both", "last", "turn", "size", "outer", "i"] ["script"] (defScope (at_ 63)) := ⟨rfl, rfl, rfl, by decide +kernel, rfl, by decide +kernel, by decide +kernel⟩
def r_common_divisor : FD := ⟨"common_divisor", at_ 2, ["one", "other"], ["one", "other"], x_common_divisor, b_common_divisor⟩
def r_fraction_of : FD := ⟨"fraction_of", at_ 3, ["p", "q", "by"], ["p", "q"], x_fraction_of, b_fraction_of⟩
def r_fraction_sum : FD := ⟨"fraction_sum", at_ 4, ["one", "other"], ["one", "other"], x_fraction_sum, b_fraction_sum⟩
def r_fraction_turned : FD := ⟨"fraction_turned", at_ 5, ["one"], ["one"], x_fraction_turned, b_fraction_turned⟩
def r_fraction_times : FD := ⟨"fraction_times", at_ 6, ["one", "other"], ["one", "other"], x_fraction_times, b_fraction_times⟩
def r_fraction_by : FD := ⟨"fraction_by", at_ 7, ["one", "other"], ["one", "other"], x_fraction_by, b_fraction_by⟩
def r_fraction_power : FD := ⟨"fraction_power", at_ 8, ["one", "k", "found", "turn"], ["one", "k"], x_fraction_power, b_fraction_power⟩
def r_number_power : FD := ⟨"number_power", at_ 9, ["a", "k", "found", "turn"], ["a", "k"], x_number_power, b_number_power⟩
def r_whole_root : FD := ⟨"whole_root", at_ 10, ["number", "k", "low", "high", "middle"], ["number", "k"], x_whole_root, b_whole_root⟩
def r_fraction_root : FD := ⟨"fraction_root", at_ 11, ["one", "k", "top", "bottom"], ["one", "k"], x_fraction_root, b_fraction_root⟩
def r_poly_of : FD := ⟨"poly_of", at_ 16, ["numbers", "found"], ["numbers"], x_poly_of, b_poly_of⟩
def r_degree_of : FD := ⟨"degree_of", at_ 17, ["f"], ["f"], x_degree_of, b_degree_of⟩
def r_flat_of : FD := ⟨"flat_of", at_ 18, ["c"], ["c"], x_flat_of, b_flat_of⟩
def r_number_at : FD := ⟨"number_at", at_ 19, ["f", "i"], ["f", "i"], x_number_at, b_number_at⟩
def r_poly_sum : FD := ⟨"poly_sum", at_ 20, ["f", "g", "i"], ["f", "g"], x_poly_sum, b_poly_sum⟩
def r_poly_often : FD := ⟨"poly_often", at_ 21, ["c", "f", "a"], ["c", "f"], x_poly_often, b_poly_often⟩
def r_poly_less : FD := ⟨"poly_less", at_ 22, ["f", "g"], ["f", "g"], x_poly_less, b_poly_less⟩
def r_whole_numbers : FD := ⟨"whole_numbers", at_ 23, ["f", "bottom", "p", "q"], ["f"], x_whole_numbers, b_whole_numbers⟩
def r_poly_times : FD := ⟨"poly_times", at_ 24, ["f", "g", "one", "some", "other", "late", "found", "i", "a", "j", "b"], ["f", "g"], x_poly_times, b_poly_times⟩
def r_poly_within : FD := ⟨"poly_within", at_ 25, ["g", "h", "found", "c"], ["g", "h"], x_poly_within, b_poly_within⟩
def r_poly_divided : FD := ⟨"poly_divided", at_ 26, ["f", "h", "rest", "found", "k", "often", "i", "a"], ["f", "h"], x_poly_divided, b_poly_divided⟩
def r_normal_of : FD := ⟨"normal_of", at_ 28, ["f", "c", "b"], ["f"], x_normal_of, b_normal_of⟩
def r_falls_of : FD := ⟨"falls_of", at_ 30, ["h"], ["h"], x_falls_of, b_falls_of⟩
def r_falling_power : FD := ⟨"falling_power", at_ 31, ["falls", "p", "q", "t", "found", "j", "total", "i", "often"], ["falls", "p", "q", "t"], x_falling_power, b_falling_power⟩
def r_from_falls : FD := ⟨"from_falls", at_ 32, ["numbers", "m", "late"], ["numbers", "m"], x_from_falls, b_from_falls⟩
def r_candidate_of : FD := ⟨"candidate_of", at_ 33, ["f", "m", "n"], ["f", "m"], x_candidate_of, b_candidate_of⟩
def r_digits_of : FD := ⟨"digits_of", at_ 35, ["f", "h", "found", "rest"], ["f", "h"], x_digits_of, b_digits_of⟩
def r_is_flat : FD := ⟨"is_flat", at_ 36, ["f"], ["f"], x_is_flat, b_is_flat⟩
def r_are_fraction_digits : FD := ⟨"are_fraction_digits", at_ 37, ["digits", "digit"], ["digits"], x_are_fraction_digits, b_are_fraction_digits⟩
def r_outer_part : FD := ⟨"outer_part", at_ 38, ["f", "h", "digits", "digit"], ["f", "h"], x_outer_part, b_outer_part⟩
def r_inner_part : FD := ⟨"inner_part", at_ 39, ["f", "m", "h"], ["f", "m"], x_inner_part, b_inner_part⟩
def r_repeated : FD := ⟨"repeated", at_ 41, ["g", "k", "found", "turn"], ["g", "k"], x_repeated, b_repeated⟩
def r_repeat_degree : FD := ⟨"repeat_degree", at_ 42, ["n", "k", "d"], ["n", "k"], x_repeat_degree, b_repeat_degree⟩
def r_repeat_count : FD := ⟨"repeat_count", at_ 43, ["d", "k", "i"], ["d", "k"], x_repeat_count, b_repeat_count⟩
def r_roots_of : FD := ⟨"roots_of", at_ 44, ["c", "count", "root"], ["c", "count"], x_roots_of, b_roots_of⟩
def r__law_open_cells : FD := ⟨"_law_open_cells", at_ 46, ["script", "stirred", "cell", "cells"], ["script"], x__law_open_cells, b__law_open_cells⟩
def r__law_pick : FD := ⟨"_law_pick", at_ 47, ["source", "most", "cells", "others", "lap", "stirred"], ["source", "most"], x__law_pick, b__law_pick⟩
def r__law_of : FD := ⟨"_law_of", at_ 48, ["source", "some"], ["source", "some"], x__law_of, b__law_of⟩
def r__law_low : FD := ⟨"_law_low", at_ 49, ["p", "q", "a", "b"], ["p", "q"], x__law_low, b__law_low⟩
def r__law_add : FD := ⟨"_law_add", at_ 50, ["one", "other"], ["one", "other"], x__law_add, b__law_add⟩
def r__law_mul : FD := ⟨"_law_mul", at_ 51, ["one", "other"], ["one", "other"], x__law_mul, b__law_mul⟩
def r__law_cut : FD := ⟨"_law_cut", at_ 52, ["numbers", "found"], ["numbers"], x__law_cut, b__law_cut⟩
def r__law_plus : FD := ⟨"_law_plus", at_ 53, ["f", "g", "many", "one", "other", "a", "b"], ["f", "g"], x__law_plus, b__law_plus⟩
def r__law_product : FD := ⟨"_law_product", at_ 54, ["f", "g", "found", "i", "total", "j"], ["f", "g"], x__law_product, b__law_product⟩
def r__law_put : FD := ⟨"_law_put", at_ 55, ["g", "h", "found", "c"], ["g", "h"], x__law_put, b__law_put⟩
def r__law_fraction : FD := ⟨"_law_fraction", at_ 56, ["source", "far", "bottom"], ["source", "far", "bottom"], x__law_fraction, b__law_fraction⟩
def r__law_poly : FD := ⟨"_law_poly", at_ 57, ["source", "n", "far", "bottom", "last", "numbers", "i"], ["source", "n", "far", "bottom"], x__law_poly, b__law_poly⟩
def r__law_repeat : FD := ⟨"_law_repeat", at_ 58, ["g", "k", "found", "turn"], ["g", "k"], x__law_repeat, b__law_repeat⟩
def r__law_number_power : FD := ⟨"_law_number_power", at_ 59, ["a", "k", "found", "turn"], ["a", "k"], x__law_number_power, b__law_number_power⟩
def r__law_exact_root : FD := ⟨"_law_exact_root", at_ 60, ["number", "k", "low", "high", "middle"], ["number", "k"], x__law_exact_root, b__law_exact_root⟩
def r__law_roots : FD := ⟨"_law_roots", at_ 61, ["c", "count", "top", "bottom"], ["c", "count"], x__law_roots, b__law_roots⟩
def r__law_degree_root : FD := ⟨"_law_degree_root", at_ 62, ["n", "k", "found", "d"], ["n", "k"], x__law_degree_root, b__law_degree_root⟩
def r_law : FD := ⟨"law", at_ 63, ["script", "source", "lap", "count", "far", "one", "power", "more", "c", "d", "k", "n", "due", "rows", "l", "g", "other", "both", "last", "turn", "size", "outer", "i"], ["script"], x_law, b_law⟩
def tbl : List FD := [r_common_divisor, r_fraction_of, r_fraction_sum, r_fraction_turned, r_fraction_times, r_fraction_by, r_fraction_power, r_number_power, r_whole_root, r_fraction_root, r_poly_of, r_degree_of, r_flat_of, r_number_at, r_poly_sum, r_poly_often, r_poly_less, r_whole_numbers, r_poly_times, r_poly_within, r_poly_divided, r_normal_of, r_falls_of, r_falling_power, r_from_falls, r_candidate_of, r_digits_of, r_is_flat, r_are_fraction_digits, r_outer_part, r_inner_part, r_repeated, r_repeat_degree, r_repeat_count, r_roots_of, r__law_open_cells, r__law_pick, r__law_of, r__law_low, r__law_add, r__law_mul, r__law_cut, r__law_plus, r__law_product, r__law_put, r__law_fraction, r__law_poly, r__law_repeat, r__law_number_power, r__law_exact_root, r__law_roots, r__law_degree_root, r_law]
def nc : List Str := ["NONE", "ONE", "X"]
def C : Nat → D
  | 0 => .tuple [.int (0), .int (1)]
  | 1 => .tuple [.int (1), .int (1)]
  | 2 => .tuple [.tuple [.int (0), .int (1)], .tuple [.int (1), .int (1)]]
  | _ => .none
abbrev i_common_divisor : Nat := 0
theorem u_common_divisor {k : Nat} : mean tbl C (k + 1) 0 = evFn (mean tbl C k) C FUEL 2 2 b_common_divisor := rfl
abbrev i_fraction_of : Nat := 1
theorem u_fraction_of {k : Nat} : mean tbl C (k + 1) 1 = evFn (mean tbl C k) C FUEL 2 3 b_fraction_of := rfl
abbrev i_fraction_sum : Nat := 2
theorem u_fraction_sum {k : Nat} : mean tbl C (k + 1) 2 = evFn (mean tbl C k) C FUEL 2 2 b_fraction_sum := rfl
abbrev i_fraction_turned : Nat := 3
theorem u_fraction_turned {k : Nat} : mean tbl C (k + 1) 3 = evFn (mean tbl C k) C FUEL 1 1 b_fraction_turned := rfl
abbrev i_fraction_times : Nat := 4
theorem u_fraction_times {k : Nat} : mean tbl C (k + 1) 4 = evFn (mean tbl C k) C FUEL 2 2 b_fraction_times := rfl
abbrev i_fraction_by : Nat := 5
theorem u_fraction_by {k : Nat} : mean tbl C (k + 1) 5 = evFn (mean tbl C k) C FUEL 2 2 b_fraction_by := rfl
abbrev i_fraction_power : Nat := 6
theorem u_fraction_power {k : Nat} : mean tbl C (k + 1) 6 = evFn (mean tbl C k) C FUEL 2 4 b_fraction_power := rfl
abbrev i_number_power : Nat := 7
theorem u_number_power {k : Nat} : mean tbl C (k + 1) 7 = evFn (mean tbl C k) C FUEL 2 4 b_number_power := rfl
abbrev i_whole_root : Nat := 8
theorem u_whole_root {k : Nat} : mean tbl C (k + 1) 8 = evFn (mean tbl C k) C FUEL 2 5 b_whole_root := rfl
abbrev i_fraction_root : Nat := 9
theorem u_fraction_root {k : Nat} : mean tbl C (k + 1) 9 = evFn (mean tbl C k) C FUEL 2 4 b_fraction_root := rfl
abbrev i_poly_of : Nat := 10
theorem u_poly_of {k : Nat} : mean tbl C (k + 1) 10 = evFn (mean tbl C k) C FUEL 1 2 b_poly_of := rfl
abbrev i_degree_of : Nat := 11
theorem u_degree_of {k : Nat} : mean tbl C (k + 1) 11 = evFn (mean tbl C k) C FUEL 1 1 b_degree_of := rfl
abbrev i_flat_of : Nat := 12
theorem u_flat_of {k : Nat} : mean tbl C (k + 1) 12 = evFn (mean tbl C k) C FUEL 1 1 b_flat_of := rfl
abbrev i_number_at : Nat := 13
theorem u_number_at {k : Nat} : mean tbl C (k + 1) 13 = evFn (mean tbl C k) C FUEL 2 2 b_number_at := rfl
abbrev i_poly_sum : Nat := 14
theorem u_poly_sum {k : Nat} : mean tbl C (k + 1) 14 = evFn (mean tbl C k) C FUEL 2 3 b_poly_sum := rfl
abbrev i_poly_often : Nat := 15
theorem u_poly_often {k : Nat} : mean tbl C (k + 1) 15 = evFn (mean tbl C k) C FUEL 2 3 b_poly_often := rfl
abbrev i_poly_less : Nat := 16
theorem u_poly_less {k : Nat} : mean tbl C (k + 1) 16 = evFn (mean tbl C k) C FUEL 2 2 b_poly_less := rfl
abbrev i_whole_numbers : Nat := 17
theorem u_whole_numbers {k : Nat} : mean tbl C (k + 1) 17 = evFn (mean tbl C k) C FUEL 1 4 b_whole_numbers := rfl
abbrev i_poly_times : Nat := 18
theorem u_poly_times {k : Nat} : mean tbl C (k + 1) 18 = evFn (mean tbl C k) C FUEL 2 11 b_poly_times := rfl
abbrev i_poly_within : Nat := 19
theorem u_poly_within {k : Nat} : mean tbl C (k + 1) 19 = evFn (mean tbl C k) C FUEL 2 4 b_poly_within := rfl
abbrev i_poly_divided : Nat := 20
theorem u_poly_divided {k : Nat} : mean tbl C (k + 1) 20 = evFn (mean tbl C k) C FUEL 2 8 b_poly_divided := rfl
abbrev i_normal_of : Nat := 21
theorem u_normal_of {k : Nat} : mean tbl C (k + 1) 21 = evFn (mean tbl C k) C FUEL 1 3 b_normal_of := rfl
abbrev i_falls_of : Nat := 22
theorem u_falls_of {k : Nat} : mean tbl C (k + 1) 22 = evFn (mean tbl C k) C FUEL 1 1 b_falls_of := rfl
abbrev i_falling_power : Nat := 23
theorem u_falling_power {k : Nat} : mean tbl C (k + 1) 23 = evFn (mean tbl C k) C FUEL 4 9 b_falling_power := rfl
abbrev i_from_falls : Nat := 24
theorem u_from_falls {k : Nat} : mean tbl C (k + 1) 24 = evFn (mean tbl C k) C FUEL 2 3 b_from_falls := rfl
abbrev i_candidate_of : Nat := 25
theorem u_candidate_of {k : Nat} : mean tbl C (k + 1) 25 = evFn (mean tbl C k) C FUEL 2 3 b_candidate_of := rfl
abbrev i_digits_of : Nat := 26
theorem u_digits_of {k : Nat} : mean tbl C (k + 1) 26 = evFn (mean tbl C k) C FUEL 2 4 b_digits_of := rfl
abbrev i_is_flat : Nat := 27
theorem u_is_flat {k : Nat} : mean tbl C (k + 1) 27 = evFn (mean tbl C k) C FUEL 1 1 b_is_flat := rfl
abbrev i_are_fraction_digits : Nat := 28
theorem u_are_fraction_digits {k : Nat} : mean tbl C (k + 1) 28 = evFn (mean tbl C k) C FUEL 1 2 b_are_fraction_digits := rfl
abbrev i_outer_part : Nat := 29
theorem u_outer_part {k : Nat} : mean tbl C (k + 1) 29 = evFn (mean tbl C k) C FUEL 2 4 b_outer_part := rfl
abbrev i_inner_part : Nat := 30
theorem u_inner_part {k : Nat} : mean tbl C (k + 1) 30 = evFn (mean tbl C k) C FUEL 2 3 b_inner_part := rfl
abbrev i_repeated : Nat := 31
theorem u_repeated {k : Nat} : mean tbl C (k + 1) 31 = evFn (mean tbl C k) C FUEL 2 4 b_repeated := rfl
abbrev i_repeat_degree : Nat := 32
theorem u_repeat_degree {k : Nat} : mean tbl C (k + 1) 32 = evFn (mean tbl C k) C FUEL 2 3 b_repeat_degree := rfl
abbrev i_repeat_count : Nat := 33
theorem u_repeat_count {k : Nat} : mean tbl C (k + 1) 33 = evFn (mean tbl C k) C FUEL 2 3 b_repeat_count := rfl
abbrev i_roots_of : Nat := 34
theorem u_roots_of {k : Nat} : mean tbl C (k + 1) 34 = evFn (mean tbl C k) C FUEL 2 3 b_roots_of := rfl
abbrev i__law_open_cells : Nat := 35
theorem u__law_open_cells {k : Nat} : mean tbl C (k + 1) 35 = evFn (mean tbl C k) C FUEL 1 4 b__law_open_cells := rfl
abbrev i__law_pick : Nat := 36
theorem u__law_pick {k : Nat} : mean tbl C (k + 1) 36 = evFn (mean tbl C k) C FUEL 2 6 b__law_pick := rfl
abbrev i__law_of : Nat := 37
theorem u__law_of {k : Nat} : mean tbl C (k + 1) 37 = evFn (mean tbl C k) C FUEL 2 2 b__law_of := rfl
abbrev i__law_low : Nat := 38
theorem u__law_low {k : Nat} : mean tbl C (k + 1) 38 = evFn (mean tbl C k) C FUEL 2 4 b__law_low := rfl
abbrev i__law_add : Nat := 39
theorem u__law_add {k : Nat} : mean tbl C (k + 1) 39 = evFn (mean tbl C k) C FUEL 2 2 b__law_add := rfl
abbrev i__law_mul : Nat := 40
theorem u__law_mul {k : Nat} : mean tbl C (k + 1) 40 = evFn (mean tbl C k) C FUEL 2 2 b__law_mul := rfl
abbrev i__law_cut : Nat := 41
theorem u__law_cut {k : Nat} : mean tbl C (k + 1) 41 = evFn (mean tbl C k) C FUEL 1 2 b__law_cut := rfl
abbrev i__law_plus : Nat := 42
theorem u__law_plus {k : Nat} : mean tbl C (k + 1) 42 = evFn (mean tbl C k) C FUEL 2 7 b__law_plus := rfl
abbrev i__law_product : Nat := 43
theorem u__law_product {k : Nat} : mean tbl C (k + 1) 43 = evFn (mean tbl C k) C FUEL 2 6 b__law_product := rfl
abbrev i__law_put : Nat := 44
theorem u__law_put {k : Nat} : mean tbl C (k + 1) 44 = evFn (mean tbl C k) C FUEL 2 4 b__law_put := rfl
abbrev i__law_fraction : Nat := 45
theorem u__law_fraction {k : Nat} : mean tbl C (k + 1) 45 = evFn (mean tbl C k) C FUEL 3 3 b__law_fraction := rfl
abbrev i__law_poly : Nat := 46
theorem u__law_poly {k : Nat} : mean tbl C (k + 1) 46 = evFn (mean tbl C k) C FUEL 4 7 b__law_poly := rfl
abbrev i__law_repeat : Nat := 47
theorem u__law_repeat {k : Nat} : mean tbl C (k + 1) 47 = evFn (mean tbl C k) C FUEL 2 4 b__law_repeat := rfl
abbrev i__law_number_power : Nat := 48
theorem u__law_number_power {k : Nat} : mean tbl C (k + 1) 48 = evFn (mean tbl C k) C FUEL 2 4 b__law_number_power := rfl
abbrev i__law_exact_root : Nat := 49
theorem u__law_exact_root {k : Nat} : mean tbl C (k + 1) 49 = evFn (mean tbl C k) C FUEL 2 5 b__law_exact_root := rfl
abbrev i__law_roots : Nat := 50
theorem u__law_roots {k : Nat} : mean tbl C (k + 1) 50 = evFn (mean tbl C k) C FUEL 2 4 b__law_roots := rfl
abbrev i__law_degree_root : Nat := 51
theorem u__law_degree_root {k : Nat} : mean tbl C (k + 1) 51 = evFn (mean tbl C k) C FUEL 2 4 b__law_degree_root := rfl
abbrev i_law : Nat := 52
theorem u_law {k : Nat} : mean tbl C (k + 1) 52 = evFn (mean tbl C k) C FUEL 1 23 b_law := rfl
theorem o_common_divisor : FOk tbl nc r_common_divisor := ⟨s_common_divisor, fun _ _ _ _ _ _ us hl => match us, hl with | [_, _], _ => rfl, rfl, rfl, rfl, k_common_divisor, by decide +kernel, by decide +kernel⟩
theorem o_fraction_of : FOk tbl nc r_fraction_of := ⟨s_fraction_of, fun _ _ _ _ _ _ us hl => match us, hl with | [_, _], _ => rfl, rfl, rfl, rfl, k_fraction_of, by decide +kernel, by decide +kernel⟩
theorem o_fraction_sum : FOk tbl nc r_fraction_sum := ⟨s_fraction_sum, fun _ _ _ _ _ _ us hl => match us, hl with | [_, _], _ => rfl, rfl, rfl, rfl, k_fraction_sum, by decide +kernel, by decide +kernel⟩
theorem o_fraction_turned : FOk tbl nc r_fraction_turned := ⟨s_fraction_turned, fun _ _ _ _ _ _ us hl => match us, hl with | [_], _ => rfl, rfl, rfl, rfl, k_fraction_turned, by decide +kernel, by decide +kernel⟩
theorem o_fraction_times : FOk tbl nc r_fraction_times := ⟨s_fraction_times, fun _ _ _ _ _ _ us hl => match us, hl with | [_, _], _ => rfl, rfl, rfl, rfl, k_fraction_times, by decide +kernel, by decide +kernel⟩
theorem o_fraction_by : FOk tbl nc r_fraction_by := ⟨s_fraction_by, fun _ _ _ _ _ _ us hl => match us, hl with | [_, _], _ => rfl, rfl, rfl, rfl, k_fraction_by, by decide +kernel, by decide +kernel⟩
theorem o_fraction_power : FOk tbl nc r_fraction_power := ⟨s_fraction_power, fun _ _ _ _ _ _ us hl => match us, hl with | [_, _], _ => rfl, rfl, rfl, rfl, k_fraction_power, by decide +kernel, by decide +kernel⟩
theorem o_number_power : FOk tbl nc r_number_power := ⟨s_number_power, fun _ _ _ _ _ _ us hl => match us, hl with | [_, _], _ => rfl, rfl, rfl, rfl, k_number_power, by decide +kernel, by decide +kernel⟩
theorem o_whole_root : FOk tbl nc r_whole_root := ⟨s_whole_root, fun _ _ _ _ _ _ us hl => match us, hl with | [_, _], _ => rfl, rfl, rfl, rfl, k_whole_root, by decide +kernel, by decide +kernel⟩
theorem o_fraction_root : FOk tbl nc r_fraction_root := ⟨s_fraction_root, fun _ _ _ _ _ _ us hl => match us, hl with | [_, _], _ => rfl, rfl, rfl, rfl, k_fraction_root, by decide +kernel, by decide +kernel⟩
theorem o_poly_of : FOk tbl nc r_poly_of := ⟨s_poly_of, fun _ _ _ _ _ _ us hl => match us, hl with | [_], _ => rfl, rfl, rfl, rfl, k_poly_of, by decide +kernel, by decide +kernel⟩
theorem o_degree_of : FOk tbl nc r_degree_of := ⟨s_degree_of, fun _ _ _ _ _ _ us hl => match us, hl with | [_], _ => rfl, rfl, rfl, rfl, k_degree_of, by decide +kernel, by decide +kernel⟩
theorem o_flat_of : FOk tbl nc r_flat_of := ⟨s_flat_of, fun _ _ _ _ _ _ us hl => match us, hl with | [_], _ => rfl, rfl, rfl, rfl, k_flat_of, by decide +kernel, by decide +kernel⟩
theorem o_number_at : FOk tbl nc r_number_at := ⟨s_number_at, fun _ _ _ _ _ _ us hl => match us, hl with | [_, _], _ => rfl, rfl, rfl, rfl, k_number_at, by decide +kernel, by decide +kernel⟩
theorem o_poly_sum : FOk tbl nc r_poly_sum := ⟨s_poly_sum, fun _ _ _ _ _ _ us hl => match us, hl with | [_, _], _ => rfl, rfl, rfl, rfl, k_poly_sum, by decide +kernel, by decide +kernel⟩
theorem o_poly_often : FOk tbl nc r_poly_often := ⟨s_poly_often, fun _ _ _ _ _ _ us hl => match us, hl with | [_, _], _ => rfl, rfl, rfl, rfl, k_poly_often, by decide +kernel, by decide +kernel⟩
theorem o_poly_less : FOk tbl nc r_poly_less := ⟨s_poly_less, fun _ _ _ _ _ _ us hl => match us, hl with | [_, _], _ => rfl, rfl, rfl, rfl, k_poly_less, by decide +kernel, by decide +kernel⟩
theorem o_whole_numbers : FOk tbl nc r_whole_numbers := ⟨s_whole_numbers, fun _ _ _ _ _ _ us hl => match us, hl with | [_], _ => rfl, rfl, rfl, rfl, k_whole_numbers, by decide +kernel, by decide +kernel⟩
theorem o_poly_times : FOk tbl nc r_poly_times := ⟨s_poly_times, fun _ _ _ _ _ _ us hl => match us, hl with | [_, _], _ => rfl, rfl, rfl, rfl, k_poly_times, by decide +kernel, by decide +kernel⟩
theorem o_poly_within : FOk tbl nc r_poly_within := ⟨s_poly_within, fun _ _ _ _ _ _ us hl => match us, hl with | [_, _], _ => rfl, rfl, rfl, rfl, k_poly_within, by decide +kernel, by decide +kernel⟩
theorem o_poly_divided : FOk tbl nc r_poly_divided := ⟨s_poly_divided, fun _ _ _ _ _ _ us hl => match us, hl with | [_, _], _ => rfl, rfl, rfl, rfl, k_poly_divided, by decide +kernel, by decide +kernel⟩
theorem o_normal_of : FOk tbl nc r_normal_of := ⟨s_normal_of, fun _ _ _ _ _ _ us hl => match us, hl with | [_], _ => rfl, rfl, rfl, rfl, k_normal_of, by decide +kernel, by decide +kernel⟩
theorem o_falls_of : FOk tbl nc r_falls_of := ⟨s_falls_of, fun _ _ _ _ _ _ us hl => match us, hl with | [_], _ => rfl, rfl, rfl, rfl, k_falls_of, by decide +kernel, by decide +kernel⟩
theorem o_falling_power : FOk tbl nc r_falling_power := ⟨s_falling_power, fun _ _ _ _ _ _ us hl => match us, hl with | [_, _, _, _], _ => rfl, rfl, rfl, rfl, k_falling_power, by decide +kernel, by decide +kernel⟩
theorem o_from_falls : FOk tbl nc r_from_falls := ⟨s_from_falls, fun _ _ _ _ _ _ us hl => match us, hl with | [_, _], _ => rfl, rfl, rfl, rfl, k_from_falls, by decide +kernel, by decide +kernel⟩
theorem o_candidate_of : FOk tbl nc r_candidate_of := ⟨s_candidate_of, fun _ _ _ _ _ _ us hl => match us, hl with | [_, _], _ => rfl, rfl, rfl, rfl, k_candidate_of, by decide +kernel, by decide +kernel⟩
theorem o_digits_of : FOk tbl nc r_digits_of := ⟨s_digits_of, fun _ _ _ _ _ _ us hl => match us, hl with | [_, _], _ => rfl, rfl, rfl, rfl, k_digits_of, by decide +kernel, by decide +kernel⟩
theorem o_is_flat : FOk tbl nc r_is_flat := ⟨s_is_flat, fun _ _ _ _ _ _ us hl => match us, hl with | [_], _ => rfl, rfl, rfl, rfl, k_is_flat, by decide +kernel, by decide +kernel⟩
theorem o_are_fraction_digits : FOk tbl nc r_are_fraction_digits := ⟨s_are_fraction_digits, fun _ _ _ _ _ _ us hl => match us, hl with | [_], _ => rfl, rfl, rfl, rfl, k_are_fraction_digits, by decide +kernel, by decide +kernel⟩
theorem o_outer_part : FOk tbl nc r_outer_part := ⟨s_outer_part, fun _ _ _ _ _ _ us hl => match us, hl with | [_, _], _ => rfl, rfl, rfl, rfl, k_outer_part, by decide +kernel, by decide +kernel⟩
theorem o_inner_part : FOk tbl nc r_inner_part := ⟨s_inner_part, fun _ _ _ _ _ _ us hl => match us, hl with | [_, _], _ => rfl, rfl, rfl, rfl, k_inner_part, by decide +kernel, by decide +kernel⟩
theorem o_repeated : FOk tbl nc r_repeated := ⟨s_repeated, fun _ _ _ _ _ _ us hl => match us, hl with | [_, _], _ => rfl, rfl, rfl, rfl, k_repeated, by decide +kernel, by decide +kernel⟩
theorem o_repeat_degree : FOk tbl nc r_repeat_degree := ⟨s_repeat_degree, fun _ _ _ _ _ _ us hl => match us, hl with | [_, _], _ => rfl, rfl, rfl, rfl, k_repeat_degree, by decide +kernel, by decide +kernel⟩
theorem o_repeat_count : FOk tbl nc r_repeat_count := ⟨s_repeat_count, fun _ _ _ _ _ _ us hl => match us, hl with | [_, _], _ => rfl, rfl, rfl, rfl, k_repeat_count, by decide +kernel, by decide +kernel⟩
theorem o_roots_of : FOk tbl nc r_roots_of := ⟨s_roots_of, fun _ _ _ _ _ _ us hl => match us, hl with | [_, _], _ => rfl, rfl, rfl, rfl, k_roots_of, by decide +kernel, by decide +kernel⟩
theorem o__law_open_cells : FOk tbl nc r__law_open_cells := ⟨s__law_open_cells, fun _ _ _ _ _ _ us hl => match us, hl with | [_], _ => rfl, rfl, rfl, rfl, k__law_open_cells, by decide +kernel, by decide +kernel⟩
theorem o__law_pick : FOk tbl nc r__law_pick := ⟨s__law_pick, fun _ _ _ _ _ _ us hl => match us, hl with | [_, _], _ => rfl, rfl, rfl, rfl, k__law_pick, by decide +kernel, by decide +kernel⟩
theorem o__law_of : FOk tbl nc r__law_of := ⟨s__law_of, fun _ _ _ _ _ _ us hl => match us, hl with | [_, _], _ => rfl, rfl, rfl, rfl, k__law_of, by decide +kernel, by decide +kernel⟩
theorem o__law_low : FOk tbl nc r__law_low := ⟨s__law_low, fun _ _ _ _ _ _ us hl => match us, hl with | [_, _], _ => rfl, rfl, rfl, rfl, k__law_low, by decide +kernel, by decide +kernel⟩
theorem o__law_add : FOk tbl nc r__law_add := ⟨s__law_add, fun _ _ _ _ _ _ us hl => match us, hl with | [_, _], _ => rfl, rfl, rfl, rfl, k__law_add, by decide +kernel, by decide +kernel⟩
theorem o__law_mul : FOk tbl nc r__law_mul := ⟨s__law_mul, fun _ _ _ _ _ _ us hl => match us, hl with | [_, _], _ => rfl, rfl, rfl, rfl, k__law_mul, by decide +kernel, by decide +kernel⟩
theorem o__law_cut : FOk tbl nc r__law_cut := ⟨s__law_cut, fun _ _ _ _ _ _ us hl => match us, hl with | [_], _ => rfl, rfl, rfl, rfl, k__law_cut, by decide +kernel, by decide +kernel⟩
theorem o__law_plus : FOk tbl nc r__law_plus := ⟨s__law_plus, fun _ _ _ _ _ _ us hl => match us, hl with | [_, _], _ => rfl, rfl, rfl, rfl, k__law_plus, by decide +kernel, by decide +kernel⟩
theorem o__law_product : FOk tbl nc r__law_product := ⟨s__law_product, fun _ _ _ _ _ _ us hl => match us, hl with | [_, _], _ => rfl, rfl, rfl, rfl, k__law_product, by decide +kernel, by decide +kernel⟩
theorem o__law_put : FOk tbl nc r__law_put := ⟨s__law_put, fun _ _ _ _ _ _ us hl => match us, hl with | [_, _], _ => rfl, rfl, rfl, rfl, k__law_put, by decide +kernel, by decide +kernel⟩
theorem o__law_fraction : FOk tbl nc r__law_fraction := ⟨s__law_fraction, fun _ _ _ _ _ _ us hl => match us, hl with | [_, _, _], _ => rfl, rfl, rfl, rfl, k__law_fraction, by decide +kernel, by decide +kernel⟩
theorem o__law_poly : FOk tbl nc r__law_poly := ⟨s__law_poly, fun _ _ _ _ _ _ us hl => match us, hl with | [_, _, _, _], _ => rfl, rfl, rfl, rfl, k__law_poly, by decide +kernel, by decide +kernel⟩
theorem o__law_repeat : FOk tbl nc r__law_repeat := ⟨s__law_repeat, fun _ _ _ _ _ _ us hl => match us, hl with | [_, _], _ => rfl, rfl, rfl, rfl, k__law_repeat, by decide +kernel, by decide +kernel⟩
theorem o__law_number_power : FOk tbl nc r__law_number_power := ⟨s__law_number_power, fun _ _ _ _ _ _ us hl => match us, hl with | [_, _], _ => rfl, rfl, rfl, rfl, k__law_number_power, by decide +kernel, by decide +kernel⟩
theorem o__law_exact_root : FOk tbl nc r__law_exact_root := ⟨s__law_exact_root, fun _ _ _ _ _ _ us hl => match us, hl with | [_, _], _ => rfl, rfl, rfl, rfl, k__law_exact_root, by decide +kernel, by decide +kernel⟩
theorem o__law_roots : FOk tbl nc r__law_roots := ⟨s__law_roots, fun _ _ _ _ _ _ us hl => match us, hl with | [_, _], _ => rfl, rfl, rfl, rfl, k__law_roots, by decide +kernel, by decide +kernel⟩
theorem o__law_degree_root : FOk tbl nc r__law_degree_root := ⟨s__law_degree_root, fun _ _ _ _ _ _ us hl => match us, hl with | [_, _], _ => rfl, rfl, rfl, rfl, k__law_degree_root, by decide +kernel, by decide +kernel⟩
theorem o_law : FOk tbl nc r_law := ⟨s_law, fun _ _ _ _ _ _ us hl => match us, hl with | [_], _ => rfl, rfl, rfl, rfl, k_law, by decide +kernel, by decide +kernel⟩
theorem o_all : ∀ r ∈ tbl, FOk tbl nc r := List.forall_mem_cons.mpr ⟨o_common_divisor, List.forall_mem_cons.mpr ⟨o_fraction_of, List.forall_mem_cons.mpr ⟨o_fraction_sum, List.forall_mem_cons.mpr ⟨o_fraction_turned, List.forall_mem_cons.mpr ⟨o_fraction_times, List.forall_mem_cons.mpr ⟨o_fraction_by, List.forall_mem_cons.mpr ⟨o_fraction_power, List.forall_mem_cons.mpr ⟨o_number_power, List.forall_mem_cons.mpr ⟨o_whole_root, List.forall_mem_cons.mpr ⟨o_fraction_root, List.forall_mem_cons.mpr ⟨o_poly_of, List.forall_mem_cons.mpr ⟨o_degree_of, List.forall_mem_cons.mpr ⟨o_flat_of, List.forall_mem_cons.mpr ⟨o_number_at, List.forall_mem_cons.mpr ⟨o_poly_sum, List.forall_mem_cons.mpr ⟨o_poly_often, List.forall_mem_cons.mpr ⟨o_poly_less, List.forall_mem_cons.mpr ⟨o_whole_numbers, List.forall_mem_cons.mpr ⟨o_poly_times, List.forall_mem_cons.mpr ⟨o_poly_within, List.forall_mem_cons.mpr ⟨o_poly_divided, List.forall_mem_cons.mpr ⟨o_normal_of, List.forall_mem_cons.mpr ⟨o_falls_of, List.forall_mem_cons.mpr ⟨o_falling_power, List.forall_mem_cons.mpr ⟨o_from_falls, List.forall_mem_cons.mpr ⟨o_candidate_of, List.forall_mem_cons.mpr ⟨o_digits_of, List.forall_mem_cons.mpr ⟨o_is_flat, List.forall_mem_cons.mpr ⟨o_are_fraction_digits, List.forall_mem_cons.mpr ⟨o_outer_part, List.forall_mem_cons.mpr ⟨o_inner_part, List.forall_mem_cons.mpr ⟨o_repeated, List.forall_mem_cons.mpr ⟨o_repeat_degree, List.forall_mem_cons.mpr ⟨o_repeat_count, List.forall_mem_cons.mpr ⟨o_roots_of, List.forall_mem_cons.mpr ⟨o__law_open_cells, List.forall_mem_cons.mpr ⟨o__law_pick, List.forall_mem_cons.mpr ⟨o__law_of, List.forall_mem_cons.mpr ⟨o__law_low, List.forall_mem_cons.mpr ⟨o__law_add, List.forall_mem_cons.mpr ⟨o__law_mul, List.forall_mem_cons.mpr ⟨o__law_cut, List.forall_mem_cons.mpr ⟨o__law_plus, List.forall_mem_cons.mpr ⟨o__law_product, List.forall_mem_cons.mpr ⟨o__law_put, List.forall_mem_cons.mpr ⟨o__law_fraction, List.forall_mem_cons.mpr ⟨o__law_poly, List.forall_mem_cons.mpr ⟨o__law_repeat, List.forall_mem_cons.mpr ⟨o__law_number_power, List.forall_mem_cons.mpr ⟨o__law_exact_root, List.forall_mem_cons.mpr ⟨o__law_roots, List.forall_mem_cons.mpr ⟨o__law_degree_root, List.forall_mem_cons.mpr ⟨o_law, fun _ h => nomatch h⟩⟩⟩⟩⟩⟩⟩⟩⟩⟩⟩⟩⟩⟩⟩⟩⟩⟩⟩⟩⟩⟩⟩⟩⟩⟩⟩⟩⟩⟩⟩⟩⟩⟩⟩⟩⟩⟩⟩⟩⟩⟩⟩⟩⟩⟩⟩⟩⟩⟩⟩⟩⟩

end K48

set_option Elab.async false
set_option linter.all false
set_option maxRecDepth 100000
set_option maxHeartbeats 4000000
set_option exponentiation.threshold 200000
set_option autoImplicit false
namespace K48
open PySem DE
section
variable {k : Nat} {S : Option Src} {x y : Rat} {p q : Int}
/-! fractions: the program's -/
theorem v_common_divisor : mean tbl C (k + 1) i_common_divisor [.val (.int p), .val (.int q)] S = some (.val (.int (g2 p q)), S) := by
  rw [u_common_divisor]
  simp [b_common_divisor, gcdD, g2]
theorem v_fraction_of (hq : q ≠ 0) (hb : bits q < 9000) : mean tbl C (k + 2) i_fraction_of [.val (.int p), .val (.int q)] S = some (.val (dQ (Rat.divInt p q)), S) := by
  have hg := g2_pos (p := p) hq
  have hb2 := Nat.lt_of_le_of_lt (bits_g2 (p := p) hq) hb
  rw [u_fraction_of, dQ_low hq]
  by_cases h : 0 < q
  · simp [b_fraction_of, v_common_divisor, h, fdiv_int (b := g2 p q) ⟨by omega, hb2⟩]
  · simp [b_fraction_of, v_common_divisor, h, fdiv_int (b := -(g2 p q)) ⟨by omega, by rw [bits_neg]; exact hb2⟩]
/-- room for one step -/
def Sm (x : Rat) : Prop := x.num.natAbs < 2 ^ 100000 ∧ x.den < 2 ^ 4480
theorem Hb.sm {n : Nat} (h : Hb n x) (hn : n ≤ 4480) : Sm x := ⟨Nat.lt_of_lt_of_le h.1 (Nat.pow_le_pow_right (by decide) (by omega)), Nat.lt_of_lt_of_le h.2 (Nat.pow_le_pow_right (by decide) hn)⟩
theorem Sm.n (h : Sm x) : bits x.num < 100000 := bits_of_lt h.1 (by decide)
theorem Sm.d (h : Sm x) : bits (x.den : Int) < 4480 := bits_of_lt (by simpa using h.2) (by decide)
theorem Sm.dd (hx : Sm x) (hy : Sm y) : bits ((x.den : Int) * y.den) < 9000 := Nat.lt_trans (bits_of_lt (natAbs_mul_lt (a := (x.den : Int)) (b := (y.den : Int)) (n := 4480) (m := 4480) (by simpa using hx.2) (by simpa using hy.2)) (by decide)) (by decide)
theorem Sm.dn (hx : Sm x) (hy : Hb 4480 y) : bits ((x.den : Int) * y.num) < 9000 := Nat.lt_trans (bits_of_lt (natAbs_mul_lt (a := (x.den : Int)) (b := y.num) (n := 4480) (m := 4480) (by simpa using hx.2) hy.1) (by decide)) (by decide)
theorem dQ_num : ixD (dQ x) (.int 0) = some (.val (.int x.num)) := rfl
theorem dQ_den : ixD (dQ x) (.int 1) = some (.val (.int x.den)) := rfl
theorem v_fraction_sum (hx : Sm x) (hy : Sm y) : mean tbl C (k + 3) i_fraction_sum [.val (dQ x), .val (dQ y)] S = some (.val (dQ (x + y)), S) := by
  have a1 := hx.n
  have a2 := hx.d
  have a3 := hy.n
  have a4 := hy.d
  rw [u_fraction_sum, ← low_add]
  simp [b_fraction_sum, dQ_num, dQ_den, mul_int (a := x.num) (b := (y.den : Int)) (.inl (by omega)), mul_int (a := y.num) (b := (x.den : Int)) (.inl (by omega)), mul_int (a := (x.den : Int)) (b := (y.den : Int)) (.inl (by omega)),
    v_fraction_of (Int.mul_ne_zero (den_ne x) (den_ne y)) (hx.dd hy)]
theorem v_fraction_times (hx : Sm x) (hy : Sm y) : mean tbl C (k + 3) i_fraction_times [.val (dQ x), .val (dQ y)] S = some (.val (dQ (x * y)), S) := by
  have a1 := hx.n
  have a2 := hx.d
  have a3 := hy.n
  have a4 := hy.d
  rw [u_fraction_times, ← low_mul]
  simp [b_fraction_times, dQ_num, dQ_den, mul_int (a := x.num) (b := y.num) (.inl (by omega)), mul_int (a := (x.den : Int)) (b := (y.den : Int)) (.inl (by omega)),
    v_fraction_of (Int.mul_ne_zero (den_ne x) (den_ne y)) (hx.dd hy)]
theorem v_fraction_by (hx : Sm x) (hy : Hb 4480 y) (h0 : y ≠ 0) : mean tbl C (k + 3) i_fraction_by [.val (dQ x), .val (dQ y)] S = some (.val (dQ (x / y)), S) := by
  have a1 := hx.n
  have a2 := hx.d
  have hy2 := Hb.sm hy (Nat.le_refl _)
  have a3 := hy2.n
  have a4 := hy2.d
  rw [u_fraction_by, ← low_div]
  simp [b_fraction_by, dQ_num, dQ_den, mul_int (a := x.num) (b := (y.den : Int)) (.inl (by omega)), mul_int (a := (x.den : Int)) (b := y.num) (.inl (by omega)),
    v_fraction_of (Int.mul_ne_zero (den_ne x) (num_ne h0)) (hx.dn hy)]
end
end K48

set_option Elab.async false
set_option linter.all false
set_option maxRecDepth 100000
set_option maxHeartbeats 4000000
set_option exponentiation.threshold 200000
set_option autoImplicit false
namespace K48
open PySem DE
section
variable {k : Nat} {S : Option Src} {x y : Rat} {p q : Int}
theorem fuel_big {n : Nat} (h : n < 2 ^ 10000) : n < FUEL := Nat.lt_of_lt_of_le h (Nat.pow_le_pow_right (by decide) (by decide))
/-! the law's fractions -/
theorem low_loop {Φ : Nat → Fn} {P Q : SV} : ∀ (b n a : Nat), b < n → whileF (fT (ev Φ C (.cmp .gt (.var 3) (.int 0)))) (exB Φ C FUEL [.par [2, 3] [.var 3, .bin .mod (.blt .int [.var 2]) (.var 3)]]) n ⟨[P, Q, .val (.int a), .val (.int b)], S⟩ = some (.nx, ⟨[P, Q, .val (.int (Nat.gcd a b : Nat)), .val (.int 0)], S⟩) := by
  intro b
  induction b using Nat.strongRecOn with
  | _ b ih =>
    intro n a hn
    obtain ⟨n, rfl⟩ : ∃ m, n = m + 1 := ⟨n - 1, by omega⟩
    by_cases h : b = 0
    · subst h
      simp [whileF]
    · have hb : (0 : Int) < b := by omega
      have hm : ((a : Int)).fmod b = ((a % b : Nat) : Int) := by rw [Int.fmod_eq_emod_of_nonneg _ (by omega)]; rfl
      have r := ih (a % b) (Nat.mod_lt _ (by omega)) n b (by have := Nat.mod_lt a (by omega : 0 < b); omega)
      have hg : Nat.gcd b (a % b) = Nat.gcd a b := by rw [Nat.gcd_comm b, ← Nat.gcd_rec b a, Nat.gcd_comm]
      rw [hg] at r
      simp only [Int.natCast_emod] at r hm
      simp [whileF, blD, int1D, mod_int (by omega : (b : Int) ≠ 0), hm, Nat.pos_of_ne_zero h, r]
theorem v__law_low (hq : q ≠ 0) (hb : bits q < 9000) : mean tbl C (k + 1) i__law_low [.val (.int p), .val (.int q)] S = some (.val (dQ (Rat.divInt p q)), S) := by
  have hg := g2_pos (p := p) hq
  have hb2 := Nat.lt_of_le_of_lt (bits_g2 (p := p) hq) hb
  have hf : q.natAbs < FUEL := fuel_big (Nat.lt_of_lt_of_le ((Nat.log2_lt (by omega)).mp hb) (Nat.pow_le_pow_right (by decide) (by decide)))
  have lp := low_loop (Φ := mean tbl C k) (S := S) (P := .val (.int p)) (Q := .val (.int q)) q.natAbs FUEL p.natAbs hf
  rw [u__law_low, dQ_low hq]
  have e : ((Nat.gcd p.natAbs q.natAbs : Nat) : Int) = g2 p q := rfl
  rw [e] at lp
  have fn : ∀ c : Int, (-c).fdiv (g2 p q) = c.fdiv (-(g2 p q)) := fun c => by
    rw [← Int.neg_fdiv_neg, Int.neg_neg]
  by_cases h : 0 < q
  · simp [b__law_low, blD, absD, lp, h, fdiv_int (b := g2 p q) ⟨by omega, hb2⟩]
  · simp [b__law_low, blD, absD, lp, h, fdiv_int (b := g2 p q) ⟨by omega, hb2⟩, fn]
theorem v__law_add (hx : Sm x) (hy : Sm y) : mean tbl C (k + 2) i__law_add [.val (dQ x), .val (dQ y)] S = some (.val (dQ (x + y)), S) := by
  have a1 := hx.n
  have a2 := hx.d
  have a3 := hy.n
  have a4 := hy.d
  rw [u__law_add, ← low_add]
  simp [b__law_add, dQ_num, dQ_den, mul_int (a := x.num) (b := (y.den : Int)) (.inl (by omega)), mul_int (a := y.num) (b := (x.den : Int)) (.inl (by omega)), mul_int (a := (x.den : Int)) (b := (y.den : Int)) (.inl (by omega)),
    v__law_low (Int.mul_ne_zero (den_ne x) (den_ne y)) (hx.dd hy)]
theorem v__law_mul (hx : Sm x) (hy : Sm y) : mean tbl C (k + 2) i__law_mul [.val (dQ x), .val (dQ y)] S = some (.val (dQ (x * y)), S) := by
  have a1 := hx.n
  have a2 := hx.d
  have a3 := hy.n
  have a4 := hy.d
  rw [u__law_mul, ← low_mul]
  simp [b__law_mul, dQ_num, dQ_den, mul_int (a := x.num) (b := y.num) (.inl (by omega)), mul_int (a := (x.den : Int)) (b := (y.den : Int)) (.inl (by omega)),
    v__law_low (Int.mul_ne_zero (den_ne x) (den_ne y)) (hx.dd hy)]
/-! what is a fraction -/
def isI : D → Bool
  | .int _ => true
  | _ => false
def qOf : D → Option Rat
  | .tuple [.int p, .int q] => if 0 < q ∧ g2 p q = 1 then some (Rat.divInt p q) else none
  | _ => none
theorem qOf_some {d : D} {x : Rat} : qOf d = some x ↔ d = dQ x := by
  constructor
  · intro h
    unfold qOf at h
    split at h
    · rename_i p q
      split at h
      · rename_i hz
        cases h
        obtain ⟨h1, h2⟩ := hz
        rw [dQ_low (by omega), if_pos h1, h2]
        simp
      · cases h
    · cases h
  · rintro rfl
    have hr := x.reduced
    have : g2 x.num x.den = 1 := by unfold g2; rw [Int.natAbs_natCast]; unfold Nat.Coprime at hr; omega
    show (if 0 < (x.den : Int) ∧ g2 x.num x.den = 1 then some (Rat.divInt x.num x.den) else none) = some x
    rw [if_pos ⟨den_pos x, this⟩, Rat.num_divInt_den]
@[simp] theorem len_tup {xs : List D} : blD .len [.tuple xs] = some (.val (.int xs.length)) := rfl
@[simp] theorem len_lst {xs : List D} : blD .len [.list xs] = some (.val (.int xs.length)) := rfl
@[simp] theorem isTup {d : D} : isB .tuple d = true ↔ ∃ xs, d = .tuple xs := by cases d <;> simp [isB, kd, isK]
theorem pair_of {xs : List D} (h : xs.length = 2) : ∃ a b, xs = [a, b] := by
  match xs, h with
  | [a, b], _ => exact ⟨a, b, rfl⟩
theorem all2 {a b : Bool} : blD .all [.list [.bool a, .bool b]] = some (.val (.bool (a && b))) := by
  have e : ∀ ds, blD .all [.list ds] = (boolsOf ds).map fun bs => .val (.bool (bs.all id)) := fun _ => rfl
  rw [e]
  simp [boolsOf]
theorem qOf_pair (a b : D) : qOf (.tuple [a, b]) = if isI a && isI b then (match a, b with | .int p, .int q => if 0 < q ∧ g2 p q = 1 then some (Rat.divInt p q) else none | _, _ => none) else none := by
  cases a <;> simp [qOf, isI]
  cases b <;> simp
/-! rows of fractions -/
def qsOf : List D → Option (List Rat)
  | [] => some []
  | d :: ds => (qOf d).bind fun x => (qsOf ds).map (x :: ·)
theorem qsOf_some {ds : List D} {f : List Rat} : qsOf ds = some f ↔ ds = f.map dQ := by
  induction ds generalizing f with
  | nil =>
    cases f <;> simp [qsOf]
  | cons d ds ih =>
    simp only [qsOf, Option.bind_eq_some_iff, Option.map_eq_some_iff]
    constructor
    · rintro ⟨x, h1, g, h2, rfl⟩
      rw [qOf_some.mp h1, ih.mp h2]; rfl
    · intro h
      cases f with
      | nil => simp at h
      | cons x f =>
        simp only [List.map_cons, List.cons.injEq] at h
        exact ⟨x, qOf_some.mpr h.1, f, ih.mpr h.2, rfl⟩
theorem qsOf_all {ds : List D} : (qsOf ds).isSome = (ds.map fun d => (qOf d).isSome).all id := by
  induction ds with
  | nil => rfl
  | cons d ds ih =>
    simp only [qsOf, List.map_cons, List.all_cons, id, ← ih]
    cases qOf d <;> cases qsOf ds <;> rfl
/-! what is a polynomial -/
def pOf : D → Option (List Rat)
  | .tuple ds => (qsOf ds).bind fun f => if Tr f then some f else none
  | _ => none
theorem pOf_some {d : D} {f : List Rat} : pOf d = some f ↔ d = dP f ∧ Tr f := by
  cases d with
  | tuple ds =>
    simp only [pOf, Option.bind_eq_some_iff, qsOf_some]
    constructor
    · rintro ⟨g, rfl, h⟩
      split at h
      · cases h; exact ⟨rfl, by assumption⟩
      · cases h
    · rintro ⟨h1, h2⟩
      have : ds = f.map dQ := by simpa [dP] using h1
      exact ⟨f, this, if_pos h2⟩
  | _ => simp [pOf, dP]
end
end K48

set_option Elab.async false
set_option linter.all false
set_option maxRecDepth 100000
set_option maxHeartbeats 4000000
set_option exponentiation.threshold 200000
set_option autoImplicit false
namespace K48
open PySem DE
section
variable {k : Nat} {S : Option Src} {x y : Rat} {p q : Int} {f g : List Rat}
theorem c0 : C 0 = dQ 0 := rfl
theorem snoc_of {f : List Rat} (h : f ≠ []) : ∃ g a, f = g ++ [a] := ⟨f.dropLast, f.getLast h, (List.dropLast_concat_getLast h).symm⟩
theorem tr_snoc {g : List Rat} {a : Rat} : Tr (g ++ [a]) ↔ a ≠ 0 := by simp [Tr]
@[simp] theorem list_lst {ds : List D} : blD .list [.list ds] = some (.new ds) := rfl
@[simp] theorem list_tup {ds : List D} : blD .list [.tuple ds] = some (.new ds) := rfl
@[simp] theorem list_dP : blD .list [dP f] = some (.new (f.map dQ)) := rfl
@[simp] theorem tuple_lst {ds : List D} : blD .tuple [.list ds] = some (.val (.tuple ds)) := rfl
theorem last_snoc {g : List Rat} {a : Rat} : ixD (.list ((g ++ [a]).map dQ)) (.int (-1)) = some (.val (dQ a)) := ix_lastL (by simp)
/-! zeros dropped at the end -/
theorem pop_loop {Φ : Nat → Fn} {P : SV} : ∀ (n : Nat) (f : List Rat), f.length < n → whileF (fT (ev Φ C (.and (.cmp .ne (.var 1) (.lst [])) (.cmp .eq (.ix (.var 1) (.neg (.int 1))) (.cst 0))))) (exB Φ C FUEL [.pop 1]) n ⟨[P, .own (f.map dQ)], S⟩ = some (.nx, ⟨[P, .own ((trim f).map dQ)], S⟩) := by
  intro n
  induction n with
  | zero => intro f h; omega
  | succ n ih =>
    intro f h
    by_cases hf : f = []
    · subst hf
      simp [whileF, trim]
    · obtain ⟨g, a, rfl⟩ := snoc_of hf
      have ls := last_snoc (g := g) (a := a)
      have hne : (g ++ [a]).map dQ ≠ [] := by simp
      by_cases ha : a = 0
      · subst ha
        have r := ih g (by simp at h; omega)
        have dl : ((g ++ [0]).map dQ).dropLast = g.map dQ := by simp
        rw [trim_snoc, ← r]
        simp only [whileF]
        simp [-List.map_append, ls, hne, c0, dl]
      · rw [trim_of_tr (tr_snoc.mpr ha)]
        simp only [whileF]
        simp [-List.map_append, ls, hne, c0, ha]
theorem v_poly_of (hl : f.length ≤ 1000) : mean tbl C (k + 1) i_poly_of [.val (.list (f.map dQ))] S = some (.val (dP (trim f)), S) := by
  have lp := pop_loop (Φ := mean tbl C k) (S := S) (P := .val (.list (f.map dQ))) FUEL f (fuel_big (Nat.lt_of_le_of_lt hl (by decide +kernel)))
  rw [u_poly_of]
  simp [b_poly_of, lp, tup_dP]
theorem pop_loop2 {Φ : Nat → Fn} {P : SV} : ∀ (n : Nat) (f : List Rat), f.length < n → whileF (fT (ev Φ C (.and (.cmp .ne (.var 1) (.lst [])) (.cmp .eq (.ix (.ix (.var 1) (.neg (.int 1))) (.int 0)) (.int 0))))) (exB Φ C FUEL [.pop 1]) n ⟨[P, .own (f.map dQ)], S⟩ = some (.nx, ⟨[P, .own ((trim f).map dQ)], S⟩) := by
  intro n
  induction n with
  | zero => intro f h; omega
  | succ n ih =>
    intro f h
    by_cases hf : f = []
    · subst hf
      simp [whileF, trim]
    · obtain ⟨g, a, rfl⟩ := snoc_of hf
      have ls := last_snoc (g := g) (a := a)
      have hne : (g ++ [a]).map dQ ≠ [] := by simp
      by_cases ha : a = 0
      · subst ha
        have r := ih g (by simp at h; omega)
        have dl : ((g ++ [0]).map dQ).dropLast = g.map dQ := by simp
        rw [trim_snoc, ← r]
        simp only [whileF]
        simp [-List.map_append, ls, hne, dQ_num, dl]
      · have hn : ¬ a.num = 0 := num_ne ha
        rw [trim_of_tr (tr_snoc.mpr ha)]
        simp only [whileF]
        simp [-List.map_append, ls, hne, dQ_num, hn]
theorem v__law_cut (hl : f.length ≤ 1000) : mean tbl C (k + 1) i__law_cut [.val (.list (f.map dQ))] S = some (.val (dP (trim f)), S) := by
  have lp := pop_loop2 (Φ := mean tbl C k) (S := S) (P := .val (.list (f.map dQ))) FUEL f (fuel_big (Nat.lt_of_le_of_lt hl (by decide +kernel)))
  rw [u__law_cut]
  simp [b__law_cut, lp, tup_dP]
theorem v_number_at {i : Nat} : mean tbl C (k + 1) i_number_at [.val (dP f), .val (.int i)] S = some (.val (dQ (co f i)), S) := by
  rw [u_number_at]
  by_cases h : i < f.length
  · have ix : ixD (dP f) (.int i) = some (.val (dQ (co f i))) := ix_tup (by rw [List.getElem?_map, co_lt h]; rfl)
    simp [b_number_at, h, ix]
  · have e : co f i = 0 := co_ge (by omega)
    simp [b_number_at, h, c0, e]
/-- all numbers small -/
abbrev Sl (f : List Rat) : Prop := ∀ x ∈ f, Sm x
theorem sm0 : Sm 0 := Hb.sm (Hb.zero 1 (by decide)) (by decide)
theorem Sl.co (h : Sl f) (i : Nat) : Sm (co f i) := mem_co h sm0 i
theorem v_poly_sum (hf : Sl f) (hg : Sl g) (lf : f.length ≤ 900) (lg : g.length ≤ 900) : mean tbl C (k + 4) i_poly_sum [.val (dP f), .val (dP g)] S = some (.val (dP (addP f g)), S) := by
  have lc : lcLoop [2] (.name 2) (fT (ev (mean tbl C (k + 3)) C .yes)) (fV (ev (mean tbl C (k + 3)) C (.call 2 [.call 13 [.var 0, .var 2], .call 13 [.var 1, .var 2]]))) ((List.range (max f.length g.length)).map fun i => .int (i : Nat)) [] ⟨[.val (dP f), .val (dP g), .un], S⟩
      = some ((addL f g).map dQ, ⟨[.val (dP f), .val (dP g), .un], S⟩) := by
    rw [addL, List.map_map]
    exact lc_mapG0 _ _ yes_true _ (fun i _ => ⟨[.val (dP f), .val (dP g), .val (.int i)], [.val (dP f), .val (dP g), .val (.int i)], rfl, by simp [v_number_at, v_fraction_sum (hf.co i) (hg.co i)], rfl⟩) (by show _ ≤ 1000000; simp; omega)
  have mx : blD .max [.int (f.length : Int), .int (g.length : Int)] = some (.val (.int ((max f.length g.length : Nat) : Int))) := by
    show some (R.val (.int (max (f.length : Int) g.length))) = _
    congr 3; omega
  have rg := rng_one' (n := max f.length g.length) (by omega)
  have hp := v_poly_of (k := k + 2) (S := S) (f := addL f g) (by rw [len_addL]; omega)
  rw [u_poly_sum]
  simp only [b_poly_sum]
  simp [mx, rg, lc, hp, addP]
theorem v_poly_often {c : Rat} (hc : Sm c) (hf : Sl f) (lf : f.length ≤ 900) : mean tbl C (k + 4) i_poly_often [.val (dQ c), .val (dP f)] S = some (.val (dP (mulC c f)), S) := by
  have lc : lcLoop [2] (.name 2) (fT (ev (mean tbl C (k + 3)) C .yes)) (fV (ev (mean tbl C (k + 3)) C (.call 4 [.var 0, .var 2]))) (f.map dQ) [] ⟨[.val (dQ c), .val (dP f), .un], S⟩
      = some ((f.map (c * ·)).map dQ, ⟨[.val (dQ c), .val (dP f), .un], S⟩) := by
    rw [List.map_map]
    exact lc_mapG0 _ _ yes_true _ (fun x hx => ⟨[.val (dQ c), .val (dP f), .val (dQ x)], [.val (dQ c), .val (dP f), .val (dQ x)], rfl, by simp [v_fraction_times hc (hf x hx)], rfl⟩) (by show _ ≤ 1000000; omega)
  have hp := v_poly_of (k := k + 2) (S := S) (f := f.map (c * ·)) (by rw [List.length_map]; omega)
  rw [u_poly_often]
  simp only [b_poly_often]
  simp [-List.map_map, lc, hp, mulC]
theorem sm_m1 : Sm (-1) := Hb.sm (n := 1) ⟨by decide +kernel, by decide +kernel⟩ (by decide)
theorem dQ_m1 : PyData.tuple [.int (-1), .int 1] = dQ (-1) := rfl
theorem Sl.mulm1 (h : Sl f) : Sl (mulC (-1) f) := mem_trim fun x hx => by
  obtain ⟨y, hy, rfl⟩ := List.mem_map.mp hx
  have : -1 * y = -y := by grind
  rw [this]; exact ⟨by rw [Rat.neg_num, Int.natAbs_neg]; exact (h y hy).1, by rw [Rat.neg_den]; exact (h y hy).2⟩
theorem v_poly_less (hf : Sl f) (hg : Sl g) (lf : f.length ≤ 900) (lg : g.length ≤ 900) : mean tbl C (k + 5) i_poly_less [.val (dP f), .val (dP g)] S = some (.val (dP (subP f g)), S) := by
  have h1 := v_poly_often (k := k) (S := S) sm_m1 hg lg
  have h2 := v_poly_sum (k := k) (S := S) hf hg.mulm1 lf (Nat.le_trans (len_mulC _ _) lg)
  rw [u_poly_less]
  simp only [b_poly_less]
  simp [dQ_m1, h1, h2, subP]
theorem pad_dQ {m : Nat} (h : f.length ≤ m) : f.map dQ ++ List.replicate (m - f.length) (dQ 0) = (List.range m).map fun i => dQ (co f i) := by
  have := congrArg (List.map dQ) (pad_eq h)
  rw [List.map_append, List.map_replicate, pad, List.map_map] at this
  exact this
theorem dQ_0 : PyData.tuple [.int 0, .int 1] = dQ 0 := rfl
theorem v__law_plus (hf : Sl f) (hg : Sl g) (lf : f.length ≤ 900) (lg : g.length ≤ 900) : mean tbl C (k + 3) i__law_plus [.val (dP f), .val (dP g)] S = some (.val (dP (addP f g)), S) := by
  have m1 : f.length ≤ max f.length g.length := Nat.le_max_left ..
  have m2 : g.length ≤ max f.length g.length := Nat.le_max_right ..
  generalize hm : max f.length g.length = m at m1 m2
  have mx : blD .max [.int (f.length : Int), .int (g.length : Int)] = some (.val (.int ((m : Nat) : Int))) := by
    show some (R.val (.int (max (f.length : Int) g.length))) = _
    congr 3; omega
  have lm : m ≤ 900 := by omega
  have s1 : (m : Int) - f.length = ((m - f.length : Nat) : Int) := by omega
  have s2 : (m : Int) - g.length = ((m - g.length : Nat) : Int) := by omega
  have p1 := mul_lst (xs := [dQ 0]) (n := m - f.length) (by omega) (by simp; omega)
  have p2 := mul_lst (xs := [dQ 0]) (n := m - g.length) (by omega) (by simp; omega)
  rw [rep_one'] at p1 p2
  have a1 := add_lst (xs := f.map dQ) (ys := List.replicate (m - f.length) (dQ 0)) (by simp; omega)
  have a2 := add_lst (xs := g.map dQ) (ys := List.replicate (m - g.length) (dQ 0)) (by simp; omega)
  rw [pad_dQ m1] at a1
  rw [pad_dQ m2] at a2
  have zp := zip_map (fun i => dQ (co f i)) (fun i => dQ (co g i)) (List.range m)
  have e0 : addL f g = (List.range m).map fun i => co f i + co g i := by rw [addL, hm]
  have hp := v__law_cut (k := k + 1) (S := S) (f := addL f g) (by rw [e0]; simp; omega)
  rw [u__law_plus]
  simp only [b__law_plus]
  have lc : ∀ (A B : SV), lcLoop [5, 6] (.tup [.name 5, .name 6]) (fT (ev (mean tbl C (k + 2)) C .yes)) (fV (ev (mean tbl C (k + 2)) C (.call 39 [.var 5, .var 6]))) ((List.range m).map fun i => .tuple [dQ (co f i), dQ (co g i)]) [] ⟨[.val (dP f), .val (dP g), .val (.int m), A, B, .un, .un], S⟩
      = some ((addL f g).map dQ, ⟨[.val (dP f), .val (dP g), .val (.int m), A, B, .un, .un], S⟩) := fun A B => by
    rw [e0, List.map_map]
    exact lc_mapG0 _ _ yes_true _ (fun i _ => ⟨[.val (dP f), .val (dP g), .val (.int m), A, B, .val (dQ (co f i)), .val (dQ (co g i))], [.val (dP f), .val (dP g), .val (.int m), A, B, .val (dQ (co f i)), .val (dQ (co g i))], rfl, by simp [v__law_add (hf.co i) (hg.co i)], rfl⟩) (by show _ ≤ 1000000; simp; omega)
  simp [mx, s1, s2, p1, p2, a1, a2, dQ_0, zp, lc, hp, addP]
end
end K48

set_option Elab.async false
set_option linter.all false
set_option maxRecDepth 100000
set_option maxHeartbeats 4000000
set_option exponentiation.threshold 200000
set_option autoImplicit false
namespace K48
open PySem DE
open L2 (ixN)
section
variable {k : Nat} {S : Option Src} {x y : Rat} {p q : Int} {f g : List Rat} {D M E N : Nat}
theorem fuel_of (h : M < 2 ^ 10000) : M < FUEL := fuel_big h
/-- bottoms that divide one number, which is not great -/
structure PI (D M : Nat) (f : List Rat) : Prop where
  pos : 0 < D
  iw : ∀ i, Iw D M (co f i)
theorem mem_iw (h : PI D M f) : ∀ x ∈ f, Iw D M x := fun x hx => by
  obtain ⟨i, hi, rfl⟩ := List.getElem_of_mem hx
  have e := co_lt hi
  rw [List.getElem?_eq_getElem hi] at e
  rw [Option.some.inj e]
  exact h.iw i
theorem PI.dvd (h : PI D M f) : ∀ x ∈ f, x.den ∣ D := fun x hx => (mem_iw h x hx).dvd h.pos
theorem PI.bot (h : PI D M f) : bot f ∣ D := (bot_spec f 1 Nat.one_pos (Nat.one_dvd _) h.dvd).2.2.1
theorem PI.bits_den (h : PI D M f) (hD : D < 2 ^ 8900) {b : Nat} (hb : b ∣ D) : bits (b : Int) < 8900 := bits_of_lt (by rw [Int.natAbs_natCast]; exact Nat.lt_of_le_of_lt (Nat.le_of_dvd h.pos hb) hD) (by decide)
theorem PI.bits_num (h : PI D M f) (hM : M < 2 ^ 100000) {x : Rat} (hx : x ∈ f) : bits x.num < 100000 := bits_of_lt ((mem_iw h x hx).hbn h.pos hM) (by decide)
theorem PI.sl (h : PI D M f) (h1 : D < 2 ^ 4480) (h2 : M < 2 ^ 100000) : Sl f := fun x hx => ⟨(mem_iw h x hx).hbn h.pos h2, (mem_iw h x hx).hbd h.pos h1⟩
theorem wn_le (h : PI D M f) {x : Rat} (hx : x ∈ f) : (wn (bot f) x).natAbs ≤ M := by
  obtain ⟨z, e, l⟩ := mem_iw h x hx
  have e2 : wn D x = z := by
    have := wn_eq (h.dvd x hx)
    rw [Rat.mul_comm, e] at this
    exact_mod_cast this
  rw [← e2] at l
  refine Nat.le_trans ?_ l
  unfold wn
  rw [Int.natAbs_mul, Int.natAbs_mul, Int.natAbs_natCast, Int.natAbs_natCast]
  exact Nat.mul_le_mul_left _ (Nat.div_le_div_right (Nat.le_of_dvd h.pos h.bot))
/-! the program's product -/
theorem fdiv_nat {a b : Nat} (hb : 0 < b) (h : bits (b : Int) < 9000) : bopD .fdiv (.int (a : Int)) (.int (b : Int)) = some (.val (.int ((a / b : Nat) : Int))) := by
  rw [fdiv_int ⟨by omega, h⟩, Int.fdiv_eq_ediv_of_nonneg _ (by omega)]
  rfl
theorem bits_le_nat {a n : Nat} (h : a ≤ 2 ^ n) : bits (a : Int) < n + 1 := bits_of_lt (by rw [Int.natAbs_natCast]; exact Nat.lt_of_le_of_lt h (Nat.pow_lt_pow_right (by decide) (by omega))) (by omega)
theorem v_whole_numbers (hP : PI D M f) (hD : D < 2 ^ 8900) (hM : M < 2 ^ 100000) (lf : f.length ≤ 400) :
    mean tbl C (k + 2) i_whole_numbers [.val (dP f)] S = some (.val (.tuple [.int (bot f : Nat), .list ((f.map (wn (bot f))).map PyData.int)]), S) := by
  have bd : ∀ b : Nat, 0 < b → b ∣ D → bits (b : Int) < 8900 := fun b h0 hd => hP.bits_den hD hd
  have loop : ∃ st', forF (.tup [.name 2, .name 3]) (exB (mean tbl C (k + 1)) C FUEL [.asg 1 (.bin .mul (.bin .fdiv (.var 1) (.call 0 [.var 1, .var 3])) (.var 3))]) (f.map dQ) ⟨[.val (dP f), .val (.int 1), .un, .un], S⟩ = some (.nx, st') ∧
      ∃ y2 y3, st' = ⟨[.val (dP f), .val (.int (bot f : Nat)), y2, y3], S⟩ ∧ True := by
    have := for_inv (tg := .tup [.name 2, .name 3]) (ψ := exB (mean tbl C (k + 1)) C FUEL [.asg 1 (.bin .mul (.bin .fdiv (.var 1) (.call 0 [.var 1, .var 3])) (.var 3))]) dQ
      (fun (b : Nat) st => ∃ y2 y3, st = ⟨[.val (dP f), .val (.int (b : Nat)), y2, y3], S⟩ ∧ 0 < b ∧ b ∣ D) (fun b x => Nat.lcm b x.den) f 1 ⟨[.val (dP f), .val (.int 1), .un, .un], S⟩ ⟨.un, .un, rfl, Nat.one_pos, Nat.one_dvd _⟩ ?_
    · obtain ⟨st', h1, y2, y3, h2, _⟩ := this
      exact ⟨st', h1, y2, y3, h2, trivial⟩
    · rintro x hx b st ⟨y2, y3, rfl, h0, hd⟩
      refine ⟨_, _, rfl, ?_, .val (.int x.num), .val (.int x.den), rfl, Nat.lcm_pos h0 x.den_pos, Nat.lcm_dvd hd (hP.dvd x hx)⟩
      have hg : 0 < Nat.gcd b x.den := Nat.gcd_pos_of_pos_left _ h0
      have e1 : g2 (b : Int) (x.den : Int) = ((Nat.gcd b x.den : Nat) : Int) := by simp [g2]
      have cd := v_common_divisor (k := k) (S := S) (p := (b : Int)) (q := (x.den : Int))
      rw [e1] at cd
      have b1 := bd b h0 hd
      have fd := fdiv_nat (a := b) hg (Nat.lt_of_le_of_lt (log2_mono (by simpa using Nat.gcd_le_left x.den h0)) (by omega : bits (b : Int) < 9000))
      have b2 : bits ((b / Nat.gcd b x.den : Nat) : Int) ≤ bits (b : Int) := log2_mono (by rw [Int.natAbs_natCast, Int.natAbs_natCast]; exact Nat.div_le_self _ _)
      have b3 : bits (x.den : Int) < 8900 := bd _ x.den_pos (hP.dvd x hx)
      have mu := mul_int (a := ((b / Nat.gcd b x.den : Nat) : Int)) (b := (x.den : Int)) (.inl (by omega))
      rw [← Int.natCast_mul, lcm_eq] at mu
      simp -implicitDefEqProofs [-Int.natCast_ediv, cd, fd, mu]
  obtain ⟨st', h1, y2, y3, rfl, _⟩ := loop
  have lc : lcLoop [2, 3] (.tup [.name 2, .name 3]) (fT (ev (mean tbl C (k + 1)) C .yes)) (fV (ev (mean tbl C (k + 1)) C (.bin .mul (.var 2) (.bin .fdiv (.var 1) (.var 3))))) (f.map dQ) [] ⟨[.val (dP f), .val (.int (bot f : Nat)), y2, y3], S⟩
      = some ((f.map (wn (bot f))).map PyData.int, ⟨[.val (dP f), .val (.int (bot f : Nat)), y2, y3], S⟩) := by
    rw [List.map_map]
    refine lc_mapG0 _ _ yes_true _ (fun x hx => ⟨[.val (dP f), .val (.int (bot f : Nat)), .val (.int x.num), .val (.int x.den)], [.val (dP f), .val (.int (bot f : Nat)), .val (.int x.num), .val (.int x.den)], rfl, ?_, rfl⟩) (by show _ ≤ 1000000; omega)
    have b3 : bits (x.den : Int) < 8900 := bd _ x.den_pos (hP.dvd x hx)
    have b4 : bits x.num < 100000 := hP.bits_num hM hx
    have fd := fdiv_nat (a := bot f) x.den_pos (by omega : bits (x.den : Int) < 9000)
    have b1 : bits (bot f : Int) < 8900 := bd _ (bot_pos f) hP.bot
    have b2 : bits ((bot f / x.den : Nat) : Int) ≤ bits (bot f : Int) := log2_mono (by rw [Int.natAbs_natCast, Int.natAbs_natCast]; exact Nat.div_le_self _ _)
    have mu := mul_int (a := x.num) (b := ((bot f / x.den : Nat) : Int)) (.inl (by omega))
    simp -implicitDefEqProofs [-Int.natCast_ediv, fd, mu, wn]
  rw [u_whole_numbers]
  simp only [b_whole_numbers]
  simp -implicitDefEqProofs [-List.map_map, h1, lc]
theorem getD_mem {L : List Int} {P : Int → Prop} (h : ∀ z ∈ L, P z) (h0 : P 0) (i : Nat) : P (L.getD i 0) := by
  by_cases hi : i < L.length
  · rw [List.getD_eq_getElem?_getD, List.getElem?_eq_getElem hi]
    exact h _ (List.getElem_mem hi)
  · rw [List.getD_eq_getElem?_getD, List.getElem?_eq_none (by omega)]
    exact h0
theorem int_at {L : List Int} {m : Nat} {i : Int} (hi : i = m) (h : m < L.length) : ixD (.list (L.map PyData.int)) (.int i) = some (.val (.int (L.getD m 0))) := by
  subst hi
  exact ix_lst (by rw [List.getElem?_map, List.getD_eq_getElem?_getD, List.getElem?_eq_getElem h]; rfl)
theorem v_poly_times (hf : PI D M f) (hg : PI E N g) (hD : D < 2 ^ 8900) (hE : E < 2 ^ 8900) (hDE : D * E < 2 ^ 8900) (hM : M < 2 ^ 100000) (hN : N < 2 ^ 100000) (lf : f.length ≤ 400) (lg : g.length ≤ 400) :
    mean tbl C (k + 3) i_poly_times [.val (dP f), .val (dP g)] S = some (.val (dP (mulP f g)), S) := by
  have wf := v_whole_numbers (k := k) (S := S) hf hD hM lf
  have wg := v_whole_numbers (k := k) (S := S) hg hE hN lg
  have lA : (f.map (wn (bot f))).length = f.length := by simp
  have lB : (g.map (wn (bot g))).length = g.length := by simp
  have sA : ∀ i, bits ((f.map (wn (bot f))).getD i 0) < 100000 := getD_mem (P := fun z => bits z < 100000) (fun z hz => by
    obtain ⟨x, hx, rfl⟩ := List.mem_map.mp hz
    exact bits_of_lt (Nat.lt_of_le_of_lt (wn_le hf hx) hM) (by decide)) (by show (0 : Nat).log2 < _; simp)
  have sB : ∀ i, bits ((g.map (wn (bot g))).getD i 0) < 100000 := getD_mem (P := fun z => bits z < 100000) (fun z hz => by
    obtain ⟨x, hx, rfl⟩ := List.mem_map.mp hz
    exact bits_of_lt (Nat.lt_of_le_of_lt (wn_le hg hx) hN) (by decide)) (by show (0 : Nat).log2 < _; simp)
  have cA : ∀ i, i < f.length → (((f.map (wn (bot f))).getD i 0 : Int) : Rat) = bot f * co f i := fun i hi => by
    have e : (f.map (wn (bot f))).getD i 0 = wn (bot f) (co f i) := by simp [List.getD_eq_getElem?_getD, hi, co]
    rw [e, wn_eq (bot_dvd (List.mem_of_getElem? (co_lt hi)))]
  have cB : ∀ i, (((g.map (wn (bot g))).getD i 0 : Int) : Rat) = bot g * co g i := fun i => by
    by_cases hi : i < g.length
    · have e : (g.map (wn (bot g))).getD i 0 = wn (bot g) (co g i) := by simp [List.getD_eq_getElem?_getD, hi, co]
      rw [e, wn_eq (bot_dvd (List.mem_of_getElem? (co_lt hi)))]
    · have e : (g.map (wn (bot g))).getD i 0 = 0 := by simp [List.getD_eq_getElem?_getD, hi]
      rw [e, co_ge (by omega)]; simp
  generalize hA : f.map (wn (bot f)) = A at *
  generalize hB : g.map (wn (bot g)) = B at *
  -- the loops
  have il : ∀ (i : Nat) (hi : i < f.length) (L : List Int) (x9 x10 : SV), L.length = f.length + g.length →
      ∃ st', forF (.tup [.name 9, .name 10]) (exB (mean tbl C (k + 2)) C FUEL [.setI 6 (.bin .add (.var 7) (.var 9)) (.bin .add (.ix (.var 6) (.bin .add (.var 7) (.var 9))) (.bin .mul (.var 8) (.var 10)))]) (enumD (B.map PyData.int))
        ⟨[.val (dP f), .val (dP g), .val (.int (bot f : Nat)), .val (.list (A.map PyData.int)), .val (.int (bot g : Nat)), .val (.list (B.map PyData.int)), .own (L.map PyData.int), .val (.int i), .val (.int (A.getD i 0)), x9, x10], S⟩ = some (.nx, st') ∧
        ∃ y9 y10, st' = ⟨[.val (dP f), .val (dP g), .val (.int (bot f : Nat)), .val (.list (A.map PyData.int)), .val (.int (bot g : Nat)), .val (.list (B.map PyData.int)), .own ((rowZ i (A.getD i 0) (fun j => B.getD j 0) g.length L).map PyData.int), .val (.int i), .val (.int (A.getD i 0)), y9, y10], S⟩ := by
    intro i hi L x9 x10 hL
    rw [enum_ints, lB]
    refine for_rng (P := fun s st => ∃ y9 y10, st = ⟨[.val (dP f), .val (dP g), .val (.int (bot f : Nat)), .val (.list (A.map PyData.int)), .val (.int (bot g : Nat)), .val (.list (B.map PyData.int)), .own ((rowZ i (A.getD i 0) (fun j => B.getD j 0) s L).map PyData.int), .val (.int i), .val (.int (A.getD i 0)), y9, y10], S⟩) ⟨x9, x10, rfl⟩ ?_
    rintro j hj st ⟨y9, y10, rfl⟩
    refine ⟨_, _, rfl, ?_, .val (.int j), .val (.int (B.getD j 0)), rfl⟩
    have lr : (rowZ i (A.getD i 0) (fun j => B.getD j 0) j L).length = f.length + g.length := by rw [len_rowZ, hL]
    have ix := int_at (L := rowZ i (A.getD i 0) (fun j => B.getD j 0) j L) (m := i + j) (i := (i : Int) + (j : Int)) (by omega) (by rw [lr]; omega)
    have a1 := sA i
    have a2 := sB j
    have mu := mul_int (a := A.getD i 0) (b := B.getD j 0) (.inl (by omega))
    have ixn : ixN (rowZ i (A.getD i 0) (fun j => B.getD j 0) j L).length ((i : Int) + (j : Int)) = some (i + j) := ixN_int (by omega) (by rw [lr]; omega)
    have st : ((rowZ i (A.getD i 0) (fun j => B.getD j 0) j L).map PyData.int).set (i + j) (.int ((rowZ i (A.getD i 0) (fun j => B.getD j 0) j L).getD (i + j) 0 + A.getD i 0 * B.getD j 0)) = (rowZ i (A.getD i 0) (fun j => B.getD j 0) (j + 1) L).map PyData.int := by
      rw [← List.map_set]; rfl
    simp -implicitDefEqProofs [-List.getD_eq_getElem?_getD, ix, mu, ixn, st]
  have ol : ∃ st', forF (.tup [.name 7, .name 8]) (exB (mean tbl C (k + 2)) C FUEL [.forS (.tup [.name 9, .name 10]) (.enum (.var 5)) [.setI 6 (.bin .add (.var 7) (.var 9)) (.bin .add (.ix (.var 6) (.bin .add (.var 7) (.var 9))) (.bin .mul (.var 8) (.var 10)))]]) (enumD (A.map PyData.int))
        ⟨[.val (dP f), .val (dP g), .val (.int (bot f : Nat)), .val (.list (A.map PyData.int)), .val (.int (bot g : Nat)), .val (.list (B.map PyData.int)), .own ((List.replicate (f.length + g.length) 0).map PyData.int), .un, .un, .un, .un], S⟩ = some (.nx, st') ∧
        ∃ y7 y8 y9 y10, st' = ⟨[.val (dP f), .val (dP g), .val (.int (bot f : Nat)), .val (.list (A.map PyData.int)), .val (.int (bot g : Nat)), .val (.list (B.map PyData.int)), .own ((rowsZ (fun i => A.getD i 0) (fun j => B.getD j 0) g.length f.length (List.replicate (f.length + g.length) 0)).map PyData.int), y7, y8, y9, y10], S⟩ := by
    rw [enum_ints, lA]
    refine for_rng (P := fun s st => ∃ y7 y8 y9 y10, st = ⟨[.val (dP f), .val (dP g), .val (.int (bot f : Nat)), .val (.list (A.map PyData.int)), .val (.int (bot g : Nat)), .val (.list (B.map PyData.int)), .own ((rowsZ (fun i => A.getD i 0) (fun j => B.getD j 0) g.length s (List.replicate (f.length + g.length) 0)).map PyData.int), y7, y8, y9, y10], S⟩) ⟨_, _, _, _, rfl⟩ ?_
    rintro i hi st ⟨y7, y8, y9, y10, rfl⟩
    obtain ⟨st', h1, y9', y10', rfl⟩ := il i hi (rowsZ (fun i => A.getD i 0) (fun j => B.getD j 0) g.length i (List.replicate (f.length + g.length) 0)) y9 y10 (by rw [len_rowsZ, List.length_replicate])
    refine ⟨_, _, rfl, ?_, .val (.int i), .val (.int (A.getD i 0)), y9', y10', rfl⟩
    simp -implicitDefEqProofs [-List.getD_eq_getElem?_getD, h1]
    rfl
  obtain ⟨st', h1, y7, y8, y9, y10, rfl⟩ := ol
  rw [List.map_replicate] at h1
  -- what the numbers are
  have lL : (rowsZ (fun i => A.getD i 0) (fun j => B.getD j 0) g.length f.length (List.replicate (f.length + g.length) 0)).length = f.length + g.length := by rw [len_rowsZ, List.length_replicate]
  have val : ∀ m, (((rowsZ (fun i => A.getD i 0) (fun j => B.getD j 0) g.length f.length (List.replicate (f.length + g.length) 0)).getD m 0 : Int) : Rat) = (bot f : Rat) * bot g * co (prodL f g) m := fun m => by
    rw [← getD_cz, cz_rowsZ]
    have e0 : cz (List.replicate (f.length + g.length) 0) = List.replicate (f.length + g.length) 0 := by simp [cz]
    rw [e0]
    have := co_rows (f := fun i => ((A.getD i 0 : Int) : Rat)) (g := fun j => ((B.getD j 0 : Int) : Rat)) (ng := g.length) (fun j hj => by rw [cB, co_ge hj]; grind) f.length (List.replicate (f.length + g.length) 0) (by simp) m
    rw [co_zeros, Rat.zero_add] at this
    refine this.trans ?_
    rw [conv_congr (a' := fun i => (bot f : Rat) * co f i) (b' := fun j => (bot g : Rat) * co g j) (fun i hi => cA i hi) cB, conv_scale, co_prodL]
  generalize hL : rowsZ (fun i => A.getD i 0) (fun j => B.getD j 0) g.length f.length (List.replicate (f.length + g.length) 0) = L at *
  have bb : bits ((bot f : Int) * (bot g : Int)) < 9000 := by
    rw [← Int.natCast_mul]
    exact Nat.lt_trans (bits_of_lt (n := 8900) (by rw [Int.natAbs_natCast]; exact Nat.lt_of_le_of_lt (Nat.mul_le_mul (Nat.le_of_dvd hf.pos hf.bot) (Nat.le_of_dvd hg.pos hg.bot)) hDE) (by decide)) (by decide)
  have bne : (bot f : Int) * (bot g : Int) ≠ 0 := Int.mul_ne_zero (by have := bot_pos f; omega) (by have := bot_pos g; omega)
  have mb := mul_int (a := (bot f : Int)) (b := (bot g : Int)) (.inl (by
    have h1 := hf.bits_den hD hf.bot
    have h2 := hg.bits_den hE hg.bot
    omega))
  have res : (L.map fun z => dQ (Rat.divInt z ((bot f : Int) * bot g))) = (prodL f g).map dQ := by
    apply List.ext_getElem?
    intro m
    by_cases hm : m < f.length + g.length
    · rw [List.getElem?_map, List.getElem?_map, List.getElem?_eq_getElem (by omega), co_lt (by simp [prodL]; omega)]
      simp only [Option.map_some]
      congr 2
      have v := val m
      rw [List.getD_eq_getElem?_getD, List.getElem?_eq_getElem (by omega)] at v
      simp only [Option.getD_some] at v
      rw [Rat.divInt_eq_div, v, Rat.intCast_mul]
      have hb : ((bot f : Int) : Rat) * ((bot g : Int) : Rat) ≠ 0 := by
        rw [← Rat.intCast_mul]
        intro z
        exact bne (congrArg Rat.num z)
      have e1 : ((bot f : Int) : Rat) = (bot f : Rat) := rfl
      have e2 : ((bot g : Int) : Rat) = (bot g : Rat) := rfl
      rw [e1, e2] at hb ⊢
      rw [Rat.mul_comm, Rat.mul_div_cancel hb]
    · rw [List.getElem?_eq_none (by simp; omega), List.getElem?_eq_none (by simp [prodL]; omega)]
  have lc : lcLoop [8] (.name 8) (fT (ev (mean tbl C (k + 2)) C .yes)) (fV (ev (mean tbl C (k + 2)) C (.call 1 [.var 8, .bin .mul (.var 2) (.var 4)]))) (L.map PyData.int) []
      ⟨[.val (dP f), .val (dP g), .val (.int (bot f : Nat)), .val (.list (A.map PyData.int)), .val (.int (bot g : Nat)), .val (.list (B.map PyData.int)), .val (.list (L.map PyData.int)), y7, y8, y9, y10], S⟩ = some ((prodL f g).map dQ,
      ⟨[.val (dP f), .val (dP g), .val (.int (bot f : Nat)), .val (.list (A.map PyData.int)), .val (.int (bot g : Nat)), .val (.list (B.map PyData.int)), .val (.list (L.map PyData.int)), y7, y8, y9, y10], S⟩) := by
    rw [← res]
    refine lc_mapG0 _ _ yes_true _ (fun z hz => ⟨[.val (dP f), .val (dP g), .val (.int (bot f : Nat)), .val (.list (A.map PyData.int)), .val (.int (bot g : Nat)), .val (.list (B.map PyData.int)), .val (.list (L.map PyData.int)), y7, .val (.int z), y9, y10],
      [.val (dP f), .val (dP g), .val (.int (bot f : Nat)), .val (.list (A.map PyData.int)), .val (.int (bot g : Nat)), .val (.list (B.map PyData.int)), .val (.list (L.map PyData.int)), y7, .val (.int z), y9, y10], rfl, ?_, rfl⟩) (by show _ ≤ 1000000; omega)
    simp -implicitDefEqProofs [mb, v_fraction_of bne bb]
  have lp := v_poly_of (k := k + 1) (S := S) (f := prodL f g) (by simp [prodL]; omega)
  have s1 : (f.length : Int) + g.length = ((f.length + g.length : Nat) : Int) := by omega
  have p1 := mul_lst (xs := [PyData.int 0]) (n := f.length + g.length) (by omega) (by simp; omega)
  rw [rep_one'] at p1
  rw [u_poly_times]
  simp only [b_poly_times]
  simp -implicitDefEqProofs [-Int.natCast_add, -List.map_map, wf, wg, s1, p1, h1, lc, lp, mulP]
end
end K48

set_option Elab.async false
set_option linter.all false
set_option maxRecDepth 100000
set_option maxHeartbeats 4000000
set_option exponentiation.threshold 200000
set_option autoImplicit false
namespace K48
open PySem DE
open L2 (ixN)
section
variable {k : Nat} {S : Option Src} {x y : Rat} {p q : Int} {f g h : List Rat} {D M E N c kk : Nat}
/-! calls with loops, step by step -/
theorem ex_nx {Φ : Nat → Fn} {C : Nat → PyData} {m : Nat} {s : Stm} {b : List Stm} {st st' : Stt} (h : exS Φ C m s st = some (.nx, st')) : exB Φ C m (s :: b) st = exB Φ C m b st' := by rw [exB_cons, gSeq_eq, h, Option.bind_some, seqO_nx]
theorem ex_rt {Φ : Nat → Fn} {C : Nat → PyData} {m : Nat} {s : Stm} {b : List Stm} {st st' : Stt} {a : A} (h : exS Φ C m s st = some (.rt a, st')) : exB Φ C m (s :: b) st = some (.rt a, st') := by rw [exB_cons, gSeq_eq, h, Option.bind_some]; rfl
theorem fn_rt {Φ : Nat → Fn} {C : Nat → PyData} {m np ns : Nat} {b : List Stm} {args : List A} {S : Option Src} {a : A} {st' : Stt} {γ : List SV} (hl : args.length = np) (hγ : args.map slA ++ List.replicate (ns - np) .un = γ) (h : exB Φ C m b ⟨γ, S⟩ = some (.rt a, st')) : evFn Φ C m np ns b args S = some (a, st'.S) := by
  rw [evFn_eq hl, hγ, h, Option.bind_some]; rfl
theorem rng_two' {a b : Int} {m : Nat} (ha : a.natAbs < 2 ^ 60) (hb : b.natAbs < 2 ^ 60) (hm : m ≤ 1000000) (e : b - a = m) : rngD [.int a, .int b] = some ((List.range m).map fun i => .int (a + (i : Nat))) := by
  show (if -(2 ^ 62) ≤ a ∧ a < 2 ^ 62 ∧ -(2 ^ 62) ≤ b ∧ b < 2 ^ 62 ∧ b - a ≤ most then some ((List.range (b - a).toNat).map fun i => PyData.int (a + (i : Nat))) else none) = _
  have hm' : b - a ≤ most := by rw [e]; show (m : Int) ≤ ((1000000 : Nat) : Int); omega
  have e2 : (b - a).toNat = m := by omega
  rw [if_pos ⟨by omega, by omega, by omega, by omega, hm'⟩, e2]
@[simp] theorem min_int {a b : Int} : blD .min [.int a, .int b] = some (.val (.int (min a b))) := rfl
@[simp] theorem max_int' {a b : Int} : blD .max [.int a, .int b] = some (.val (.int (max a b))) := rfl
/-! products by the sums of their parts -/
theorem conv_cv (f g : List Rat) (m : Nat) : conv f.length (co f) (co g) m = cv (co f) (co g) m := by
  unfold conv cv
  have h1 := sumR_more (n := f.length) (m := f.length + (m + 1)) (F := fun i => if i ≤ m then co f i * co g (m - i) else 0) (by omega) fun i h1 _ => by rw [co_ge (f := f) h1]; simp
  have h2 := sumR_more (n := m + 1) (m := f.length + (m + 1)) (F := fun i => if i ≤ m then co f i * co g (m - i) else 0) (by omega) fun i h1 _ => by rw [if_neg (by omega)]
  rw [← h1, h2]
  exact sumR_congr fun i hi => by rw [if_pos (by omega)]
theorem co_mulP' (f g : List Rat) (m : Nat) : co (mulP f g) m = conv g.length (co g) (co f) m := by rw [co_mulP, conv_cv, cv_comm, conv_cv]
theorem PI.mono (h : PI D M f) (hM : M ≤ N) : PI D N f := ⟨h.pos, fun i => (h.iw i).mono hM⟩
theorem PI.mulr (hf : PI D M f) (hg : PI E N g) (lg : g.length ≤ c) : PI (D * E) (c * (M * N)) (mulP f g) := ⟨Nat.mul_pos hf.pos hg.pos, fun i => by
  rw [co_mulP']
  refine (Iw.sum fun l hl => ?_).mono (Nat.mul_le_mul_right _ lg)
  split
  · rw [Rat.mul_comm]; exact (hf.iw _).mul (hg.iw _)
  · exact Iw.zero _ _⟩
theorem PI.nil : PI 1 0 [] := ⟨by decide, fun i => Iw.zero _ _⟩
theorem PI.one : PI 1 1 [1] := ⟨by decide, fun i => mem_co (P := Iw 1 1) (fun y hy => by rw [List.mem_singleton.mp hy]; exact ⟨1, by decide +kernel, by decide⟩) (Iw.zero _ _) i⟩
theorem PI.pow (hf : PI D M f) (lf : f.length ≤ c) : ∀ s, PI (D ^ s) ((c * M) ^ s) (pP f s)
  | 0 => PI.one
  | s + 1 => by
    rw [Nat.pow_succ, Nat.pow_succ]
    refine ((PI.pow hf lf s).mulr hf lf).mono ?_
    rw [← Nat.mul_assoc, Nat.mul_comm c, Nat.mul_assoc]
    exact Nat.le_refl _
theorem len_pP (f : List Rat) : ∀ s, (pP f s).length ≤ 1 + s * f.length
  | 0 => by simp [pP]
  | s + 1 => by
    have h1 := len_mulP (pP f s) f
    have h2 := len_pP f s
    have : (s + 1) * f.length = s * f.length + f.length := Nat.succ_mul _ _
    show (mulP (pP f s) f).length ≤ _
    omega
/-- powers stay small -/
structure Pb (kk D M c : Nat) : Prop where
  d : ∀ s, s ≤ kk → D ^ s < 2 ^ 4400
  m : ∀ s, s ≤ kk → (c * M) ^ s < 2 ^ 40000
  d1 : D < 2 ^ 4400
  m1 : M < 2 ^ 40000
theorem lt8900 {a : Nat} (h : a < 2 ^ 4400) : a < 2 ^ 8900 := Nat.lt_of_lt_of_le h (Nat.pow_le_pow_right (by decide) (by decide))
theorem lt4480 {a : Nat} (h : a < 2 ^ 4400) : a < 2 ^ 4480 := Nat.lt_of_lt_of_le h (Nat.pow_le_pow_right (by decide) (by decide))
theorem lt100k {a : Nat} (h : a < 2 ^ 40000) : a < 2 ^ 100000 := Nat.lt_of_lt_of_le h (Nat.pow_le_pow_right (by decide) (by decide))
/-! the law's products -/
theorem sumR_shift {lo : Nat} {F : Nat → Rat} : ∀ s, sumR (lo + s) F = sumR lo F + sumR s fun l => F (lo + l)
  | 0 => by show sumR lo F = sumR lo F + 0; rw [Rat.add_zero]
  | s + 1 => by
    show sumR (lo + s) F + F (lo + s) = _
    rw [sumR_shift s]
    show _ = sumR lo F + ((sumR s fun l => F (lo + l)) + F (lo + s))
    rw [Rat.add_assoc]
def prI : List Stm := [.asg 4 (.call 39 [.var 4, .call 40 [.ix (.var 0) (.var 5), .ix (.var 1) (.bin .sub (.var 3) (.var 5))]])]
def prO : List Stm := [.asg 4 (.tup [.int 0, .int 1]),
    .forS (.name 5) (.rng [.blt .max [.int 0, .bin .add (.bin .sub (.var 3) (.blt .len [.var 1])) (.int 1)], .blt .min [.bin .add (.var 3) (.int 1), .blt .len [.var 0]]]) prI,
    .app 2 (.var 4)]
def psum (f g : List Rat) (i lo s : Nat) : Rat := sumR s fun l => co f (lo + l) * co g (i - (lo + l))
theorem psum_all {i : Nat} (hf : 0 < f.length) (hg : 0 < g.length) (hi : i < f.length + g.length - 1) : psum f g i (i + 1 - g.length) (min (i + 1) f.length - (i + 1 - g.length)) = co (mulP f g) i := by
  have e : i + 1 - g.length + (min (i + 1) f.length - (i + 1 - g.length)) = min (i + 1) f.length := by omega
  rw [co_mulP]
  unfold conv
  rw [sumR_more (n := min (i + 1) f.length) (by omega) fun l h1 h2 => by rw [if_neg (by omega)]]
  have sh := sumR_shift (lo := i + 1 - g.length) (F := fun l => if l ≤ i then co f l * co g (i - l) else 0) (min (i + 1) f.length - (i + 1 - g.length))
  rw [e] at sh
  rw [sh, sumR_zero (n := i + 1 - g.length) fun l hl => by rw [co_ge (f := g) (by omega)]; simp, Rat.zero_add]
  exact sumR_congr fun l hl => by rw [if_pos (by omega)]
theorem part_iw (hf : PI D M f) (hg : PI E N g) {i lo s : Nat} (hs : s ≤ 800) : Iw (D * E) (800 * (M * N)) (psum f g i lo s) := (Iw.sum fun l _ => (hf.iw _).mul (hg.iw _)).mono (Nat.mul_le_mul_right _ hs)
/-- sizes for a product -/
structure Ps (D M E N : Nat) : Prop where
  d : D * E < 2 ^ 4480
  m : M < 2 ^ 40000
  n : N < 2 ^ 40000
theorem Ps.mn (B : Ps D M E N) : M * N < 2 ^ 80001 := by
  have := Nat.mul_le_mul (Nat.le_of_lt B.m) (Nat.le_of_lt B.n)
  rw [← Nat.pow_add] at this
  exact Nat.lt_of_le_of_lt this (Nat.pow_lt_pow_right (by decide) (by decide))
theorem Ps.mn8 (B : Ps D M E N) : 800 * (M * N) < 2 ^ 100000 := by
  have := B.mn
  have : 800 * (M * N) < 2 ^ 10 * 2 ^ 80001 := by omega
  rw [← Nat.pow_add] at this
  exact Nat.lt_trans this (Nat.pow_lt_pow_right (by decide) (by decide))
theorem Iw.sm (h : Iw D M x) (hD : 0 < D) (h1 : D < 2 ^ 4480) (h2 : M < 2 ^ 100000) : Sm x := ⟨h.hbn hD h2, h.hbd hD h1⟩
theorem pr_inner (hf : PI D M f) (hg : PI E N g) (B : Ps D M E N) (lf : f.length ≤ 400) (lg : g.length ≤ 400) {i lo s : Nat} (h1 : lo + s ≤ f.length) (h2 : lo + s ≤ i + 1) (h3 : i < lo + g.length) (x2 y5 : SV) : ∃ st', forF (.name 5) (exB (mean tbl C (k + 2)) C FUEL prI) ((List.range s).map fun l => .int ((lo : Int) + (l : Nat))) ⟨[.val (dP f), .val (dP g), x2, .val (.int i), .val (dQ 0), y5], S⟩ = some (.nx, st') ∧
    ∃ z5, st' = ⟨[.val (dP f), .val (dP g), x2, .val (.int i), .val (dQ (psum f g i lo s)), z5], S⟩ := by
  refine for_rng (P := fun s st => ∃ z5, st = ⟨[.val (dP f), .val (dP g), x2, .val (.int i), .val (dQ (psum f g i lo s)), z5], S⟩) ⟨y5, rfl⟩ ?_
  rintro l hl st ⟨z5, rfl⟩
  refine ⟨_, _, rfl, ?_, .val (.int ((lo : Int) + (l : Nat))), rfl⟩
  have dd := B.d
  have d1 : D < 2 ^ 4480 := Nat.lt_of_le_of_lt (Nat.le_mul_of_pos_right _ hg.pos) dd
  have d2 : E < 2 ^ 4480 := Nat.lt_of_le_of_lt (Nat.le_mul_of_pos_left _ hf.pos) dd
  have e1 : (lo : Int) + (l : Int) = ((lo + l : Nat) : Int) := by omega
  have e2 : (i : Int) - ((lo + l : Nat) : Int) = ((i - (lo + l) : Nat) : Int) := by omega
  have x1 : ixD (dP f) (.int ((lo + l : Nat) : Int)) = some (.val (dQ (co f (lo + l)))) := ix_tup (by rw [List.getElem?_map, co_lt (by omega)]; rfl)
  have x2' : ixD (dP g) (.int ((i - (lo + l) : Nat) : Int)) = some (.val (dQ (co g (i - (lo + l))))) := ix_tup (by rw [List.getElem?_map, co_lt (by omega)]; rfl)
  have mu := v__law_mul (k := k) (S := S) (Iw.sm (hf.iw (lo + l)) hf.pos d1 (lt100k B.m)) (Iw.sm (hg.iw (i - (lo + l))) hg.pos d2 (lt100k B.n))
  have p0 := Nat.mul_pos hf.pos hg.pos
  have ad := v__law_add (k := k) (S := S) (Iw.sm (part_iw hf hg (i := i) (lo := lo) (s := l) (by omega)) p0 dd B.mn8) (Iw.sm ((hf.iw (lo + l)).mul (hg.iw (i - (lo + l)))) p0 dd (Nat.lt_trans B.mn (Nat.pow_lt_pow_right (by decide) (by decide))))
  have es : psum f g i lo l + co f (lo + l) * co g (i - (lo + l)) = psum f g i lo (l + 1) := rfl
  rw [es] at ad
  generalize ((i - (lo + l) : Nat) : Int) = j2 at *
  generalize ((lo + l : Nat) : Int) = j1 at *
  simp -implicitDefEqProofs [prI, e1, e2, x1, x2', mu, ad]
theorem trim_prod (hf : f ≠ []) (hg : g ≠ []) : trim ((List.range (f.length + g.length - 1)).map fun i => co (mulP f g) i) = mulP f g := by
  have e : mulP f g = trim (mulP f g) := (trim_of_tr (trim_tr _)).symm
  conv => rhs; rw [e]
  refine trim_eq fun i => ?_
  rw [co_map]
  have pf := List.length_pos_iff.mpr hf
  split
  · rfl
  · rename_i h
    rw [co_mulP]
    exact (sumR_zero fun l hl => by rw [co_ge (f := g) (by omega)]; simp).symm
theorem v__law_product (hf : PI D M f) (hg : PI E N g) (B : Ps D M E N) (lf : f.length ≤ 400) (lg : g.length ≤ 400) : mean tbl C (k + 3) i__law_product [.val (dP f), .val (dP g)] S = some (.val (dP (mulP f g)), S) := by
  have body : b__law_product = [.asg 2 (.lst []), .forS (.name 3) (.rng [.ite (.and (.cmp .ne (.var 0) (.tup [])) (.cmp .ne (.var 1) (.tup []))) (.bin .sub (.bin .add (.blt .len [.var 0]) (.blt .len [.var 1])) (.int 1)) (.int 0)]) prO, .ret (.call 41 [.var 2])] := rfl
  by_cases h0 : f = [] ∨ g = []
  · have em : mulP f g = [] := by
      have : mulP f g = trim (mulP f g) := (trim_of_tr (trim_tr _)).symm
      rw [this]
      have z : trim (mulP f g) = trim [] := trim_eq fun i => by
        rcases h0 with h | h
        · rw [h, co_mulP]; rfl
        · rw [h, co_mulP']; rfl
      rw [z]; rfl
    have lp := v__law_cut (k := k + 1) (S := S) (f := []) (by simp)
    have t0 : trim [] = [] := rfl
    rw [t0] at lp
    simp only [List.map_nil] at lp
    have rg : rngD [.int 0] = some [] := rfl
    rw [u__law_product, body, em]
    rcases h0 with h | h
    · subst h
      simp -implicitDefEqProofs [nil_dP, rg, forF, lp]
    · subst h
      by_cases hf0 : f = []
      · subst hf0
        simp -implicitDefEqProofs [nil_dP, rg, forF, lp]
      · simp -implicitDefEqProofs [nil_dP, hf0, rg, forF, lp]
  · have f0 : f ≠ [] := fun z => h0 (.inl z)
    have g0 : g ≠ [] := fun z => h0 (.inr z)
    have pf := List.length_pos_iff.mpr f0
    have pg := List.length_pos_iff.mpr g0
    obtain ⟨st', h1, z3, z4, z5, rfl⟩ := for_rng (tg := .name 3) (ψ := exB (mean tbl C (k + 2)) C FUEL prO) (e := fun i => .int (i : Nat)) (n := f.length + g.length - 1) (st := ⟨[.val (dP f), .val (dP g), .own [], .un, .un, .un], S⟩) (P := fun i st => ∃ z3 z4 z5, st = ⟨[.val (dP f), .val (dP g), .own (((List.range i).map fun i => co (mulP f g) i).map dQ), z3, z4, z5], S⟩) ⟨_, _, _, rfl⟩ (by
      rintro i hi st ⟨z3, z4, z5, rfl⟩
      obtain ⟨st', h1, w5, rfl⟩ := pr_inner (k := k) (S := S) hf hg B lf lg (i := i) (lo := i + 1 - g.length) (s := min (i + 1) f.length - (i + 1 - g.length)) (by omega) (by omega) (by omega) (.own (((List.range i).map fun i => co (mulP f g) i).map dQ)) z5
      rw [psum_all pf pg hi] at h1
      refine ⟨_, ⟨[.val (dP f), .val (dP g), .own (((List.range (i + 1)).map fun i => co (mulP f g) i).map dQ), .val (.int i), .val (dQ (co (mulP f g) i)), w5], S⟩, rfl, ?_, _, _, _, rfl⟩
      have m1 : max (0 : Int) ((i : Int) - (g.length : Int) + 1) = ((i + 1 - g.length : Nat) : Int) := by omega
      have m2 : min ((i : Int) + 1) (f.length : Int) = ((min (i + 1) f.length : Nat) : Int) := by omega
      have rg := rng_two' (a := ((i + 1 - g.length : Nat) : Int)) (b := ((min (i + 1) f.length : Nat) : Int)) (m := min (i + 1) f.length - (i + 1 - g.length)) (by omega) (by omega) (by omega) (by omega)
      have ap : ((List.range i).map fun i => co (mulP f g) i).map dQ ++ [dQ (co (mulP f g) i)] = ((List.range (i + 1)).map fun i => co (mulP f g) i).map dQ := by
        rw [List.range_succ, List.map_append, List.map_append]; rfl
      have la : (((List.range i).map fun i => co (mulP f g) i).map dQ).length < 1000000 := by simp; omega
      generalize ((List.range i).map fun i => co (mulP f g) i).map dQ = L at *
      generalize ((List.range (i + 1)).map fun i => co (mulP f g) i).map dQ = L' at *
      generalize (List.range (min (i + 1) f.length - (i + 1 - g.length))).map (fun l => PyData.int (((i + 1 - g.length : Nat) : Int) + (l : Nat))) = items at *
      generalize ((i + 1 - g.length : Nat) : Int) = lo at *
      generalize ((min (i + 1) f.length : Nat) : Int) = up at *
      simp -implicitDefEqProofs [prO, dQ_0, m1, m2, rg, h1, ap, la])
    have rg := rng_one' (n := f.length + g.length - 1) (by omega)
    have e1 : (f.length : Int) + (g.length : Int) - 1 = ((f.length + g.length - 1 : Nat) : Int) := by omega
    have lp := v__law_cut (k := k + 1) (S := S) (f := (List.range (f.length + g.length - 1)).map fun i => co (mulP f g) i) (by simp; omega)
    rw [trim_prod f0 g0] at lp
    rw [u__law_product, body]
    generalize ((List.range (f.length + g.length - 1)).map fun i => co (mulP f g) i).map dQ = L at *
    generalize (List.range (f.length + g.length - 1)).map (fun i => PyData.int (i : Nat)) = items at *
    generalize ((f.length + g.length - 1 : Nat) : Int) = up at *
    simp -implicitDefEqProofs [nil_dP, f0, g0, e1, rg, h1, lp]
end
end K48

set_option Elab.async false
set_option linter.all false
set_option maxRecDepth 100000
set_option maxHeartbeats 4000000
set_option exponentiation.threshold 200000
set_option autoImplicit false
namespace K48
open PySem DE
open L2 (ixN)
section
variable {k : Nat} {S : Option Src} {x y : Rat} {p q : Int} {f g h : List Rat} {D M E N c kk n m bh ab : Nat}
/-- what f is: degree n, its falling numbers not great -/
structure PF (bh ab n : Nat) (f : List Rat) : Prop where
  pl : PL n f
  n16 : n ≤ 27
  hb : ∀ i, Hb 1900 (co f i)
  inv : Hb 1900 (1 / co f n)
  fl : ∃ H A, 0 < H ∧ H < 2 ^ bh ∧ A < 2 ^ ab ∧ ∀ i, Iw H (A * H) (co (fl f) i)
theorem PF.len (F : PF bh ab n f) : f.length = n + 1 := F.pl.len
theorem PF.sm (F : PF bh ab n f) (i : Nat) : Sm (co f i) := Hb.sm (F.hb i) (by decide)
theorem PF.ne (F : PF bh ab n f) : f ≠ [] := fun z => by have := F.len; rw [z] at this; simp at this
theorem mem_of_co' {P : Rat → Prop} {f : List Rat} (h : ∀ i, P (co f i)) : ∀ x ∈ f, P x := fun x hx => by
  obtain ⟨i, hi, rfl⟩ := List.getElem_of_mem hx
  have := h i
  have e := co_lt hi
  rw [List.getElem?_eq_getElem hi] at e
  rw [← Option.some.inj e] at this
  exact this
theorem PF.sl (F : PF bh ab n f) : Sl f := mem_of_co' F.sm
theorem v_degree_of (hl : f ≠ []) : mean tbl C (k + 1) i_degree_of [.val (dP f)] S = some (.val (.int ((f.length : Int) - 1)), S) := by
  rw [u_degree_of]
  simp -implicitDefEqProofs [b_degree_of, nil_dP, hl]
theorem v_flat_of : mean tbl C (k + 2) i_flat_of [.val (dQ x)] S = some (.val (dP (trim [x])), S) := by
  have h := v_poly_of (k := k) (S := S) (f := [x]) (by simp)
  simp only [List.map_cons, List.map_nil] at h
  rw [u_flat_of]
  simp -implicitDefEqProofs [b_flat_of, h]
theorem dP_zero (hf : 0 < f.length) : ixD (dP f) (.int 0) = some (.val (dQ (co f 0))) := ix_tup (i := 0) (by rw [List.getElem?_map, co_lt hf]; rfl)
theorem dP_end (hf : 0 < f.length) : ixD (dP f) (.int (-1)) = some (.val (dQ (co f (f.length - 1)))) := ix_last (by rw [List.getLast?_map, List.getLast?_eq_getElem?, co_lt (by omega)]; rfl)
theorem hb_one : Hb 1 (1 : Rat) := ⟨by decide +kernel, by decide +kernel⟩
theorem c1 : C 1 = dQ 1 := rfl
theorem sl_sub (F : PF bh ab n f) : Sl (subP f (trim [co f 0])) := mem_of_co' fun i => by
  rw [co_subP, co_b0]
  split
  · rename_i h
    rw [h, Rat.sub_self]; exact sm0
  · have : co f i - 0 = co f i := by grind
    rw [this]; exact F.sm i
theorem len_sub (F : PF bh ab n f) : (subP f (trim [co f 0])).length ≤ 900 := by
  refine Nat.le_trans (len_addP _ _) ?_
  have := len_mulC (-1) (trim [co f 0])
  have h2 := trim_len [co f 0]
  have := F.n16
  simp at h2
  rw [F.len]
  omega
theorem v_normal_of (F : PF bh ab n f) : mean tbl C (k + 6) i_normal_of [.val (dP f)] S = some (.val (.tuple [dQ (co f n), dQ (co f 0), dP (nrm f)]), S) := by
  have hl : 0 < f.length := by rw [F.len]; omega
  have i0 := dP_zero hl
  have i1 := dP_end hl
  rw [F.pl.last] at i1
  have n16 := F.n16
  have fo := v_flat_of (k := k + 3) (S := S) (x := co f 0)
  have ls := v_poly_less (k := k) (S := S) (f := f) (g := trim [co f 0]) F.sl (mem_trim fun z hz => by rw [List.mem_singleton.mp hz]; exact F.sm 0) (by rw [F.len]; omega) (Nat.le_trans (trim_len _) (by simp))
  have by_ := v_fraction_by (k := k + 2) (S := S) (x := 1) (y := co f n) (Hb.sm hb_one (by decide)) ((F.hb n).mono (by decide)) F.pl.nz
  have of := v_poly_often (k := k + 1) (S := S) (c := 1 / co f n) (f := subP f (trim [co f 0])) (Hb.sm F.inv (by decide)) (sl_sub F) (len_sub F)
  have e : mulC (1 / co f n) (subP f (trim [co f 0])) = nrm f := by rw [nrm, F.pl.last]
  rw [e] at of
  rw [u_normal_of]
  simp only [b_normal_of]
  simp -implicitDefEqProofs [i0, i1, fo, ls, c1, by_, of]
theorem v_falls_of : mean tbl C (k + 1) i_falls_of [.val (dP f)] S = some (.val (dP f.reverse), S) := by
  rw [u_falls_of]
  simp [b_falls_of, revD, dP]
/-! normal ones told -/
/-! divisors -/
def divs (n : Nat) : List Nat := ((List.range n).map (· + 1)).filter fun d => decide (n % d = 0)
theorem divs_mem {d : Nat} : d ∈ divs n ↔ 0 < d ∧ d ≤ n ∧ d * (n / d) = n := by
  unfold divs
  rw [List.mem_filter]
  constructor
  · rintro ⟨h1, h2⟩
    obtain ⟨i, hi, rfl⟩ := List.mem_map.mp h1
    have hi : i < n := by simpa using hi
    have h2 : n % (i + 1) = 0 := by simpa using h2
    refine ⟨by omega, by omega, ?_⟩
    exact Nat.mul_div_cancel' (Nat.dvd_of_mod_eq_zero h2)
  · rintro ⟨h1, h2, h3⟩
    refine ⟨List.mem_map.mpr ⟨d - 1, by simp; omega, by omega⟩, ?_⟩
    have : d ∣ n := ⟨_, h3.symm⟩
    simpa using Nat.mod_eq_zero_of_dvd this
theorem divs_len : (divs n).length ≤ n := Nat.le_trans (List.length_filter_le _ _) (by simp)
theorem rng_from1 {n : Nat} (h : n ≤ 900000) : rngD [.int 1, .int ((n : Int) + 1)] = some (((List.range n).map (· + 1)).map fun i => .int (i : Nat)) := by
  rw [rng_two' (a := 1) (b := (n : Int) + 1) (m := n) (by omega) (by omega) (by omega) (by omega), List.map_map]
  congr 1
  refine List.map_congr_left fun i _ => ?_
  show PyData.int (1 + (i : Int)) = .int ((i + 1 : Nat) : Int)
  congr 1; omega
theorem fmod_nat {a b : Nat} (hb : 0 < b) : bopD .mod (.int (a : Int)) (.int (b : Int)) = some (.val (.int ((a % b : Nat) : Int))) := by
  rw [mod_int (by omega), Int.fmod_eq_emod_of_nonneg _ (by omega)]; rfl
end
end K48

set_option Elab.async false
set_option linter.all false
set_option maxRecDepth 100000
set_option maxHeartbeats 4000000
set_option exponentiation.threshold 200000
set_option autoImplicit false
namespace K48
open PySem DE
open L2 (ixN)
section
variable {k : Nat} {S : Option Src} {x y : Rat} {f g A B : List Rat} {n m q t many bh ab : Nat}
theorem evi_rng2 {Φ : Nat → Fn} {C : Nat → PyData} {a b : Ex} {x y : PyData} {st st' : Stt} {items : List PyData} (h : evr Φ C [a, b] st = some ([x, y], st')) (rg : rngD [x, y] = some items) : evi Φ C (.rng [a, b]) st = some (items, st') := by
  rw [evi_rng, fRng_eq, h, Option.bind_some, rg]; rfl
theorem cutL_to {xs : List PyData} {m : Nat} (h : m ≤ xs.length) : slD (.list xs) none (some (m : Int)) = some (.new (xs.take m)) := by
  show some (R.new (cutD xs none (some (m : Int)))) = _
  unfold cutD
  rw [HT.sIx_nat, HT.sIx_none, Nat.min_eq_left h]
  rfl
theorem cut_to {xs : List PyData} {n : Nat} (h : n ≤ xs.length) : slD (.tuple xs) none (some (n : Int)) = some (.val (.tuple (xs.take n))) := by
  show some (R.val (.tuple (cutD xs none (some (n : Int))))) = _
  unfold cutD
  rw [HT.sIx_nat, HT.sIx_none, Nat.min_eq_left h]
  rfl
theorem cut_from {xs : List PyData} {n : Nat} (h : n ≤ xs.length) : slD (.tuple xs) (some (n : Int)) none = some (.val (.tuple (xs.drop n))) := by
  show some (R.val (.tuple (cutD xs (some (n : Int)) none))) = _
  unfold cutD
  rw [HT.sIx_nat, HT.sIx_none, Nat.min_eq_left h, List.take_of_length_le (by simp)]
theorem lt_pow {a b c : Nat} (h : a < 2 ^ b) (hc : b ≤ c) : a < 2 ^ c := Nat.lt_of_lt_of_le h (Nat.pow_le_pow_right (by decide) hc)
/-- a root's numbers -/
abbrev rt (q : Nat) (f : List Rat) : Nat → Rat := root (co (fl f)) q
abbrev rL (q : Nat) (f : List Rat) (s : Nat) : List Rat := rootL (co (fl f)) q s
/-- sizes of falling numbers and a root's -/
structure Fz (f : List Rat) (q t : Nat) (H A D M : Nat) : Prop where
  h0 : 0 < H
  d0 : 0 < D
  h : H < 2 ^ 80
  a : A < 2 ^ 80
  pw : ∀ k, k ≤ q → D ^ k < 2 ^ 3200 ∧ (28 * M) ^ k < 2 ^ 8200 ∧ M ^ k < 2 ^ 8000
  d : D < 2 ^ 3200
  m : M < 2 ^ 8000
  fl : ∀ i, Iw H (A * H) (co (fl f) i)
  rt : ∀ i, i < t → Iw D M (rt q f i)
theorem fz_of (F : PF bh ab n f) (hb : bh ≤ 80) (ha : ab ≤ 80) (e : m * q = n) (m0 : 0 < m) : 0 < q ∧ ∃ H A D M, Fz f q m H A D M := by
  have q0 : 0 < q := by
    cases q with
    | zero => have := F.pl.n0; simp at e; omega
    | succ q => omega
  obtain ⟨H, A, h0, h1, h2, h3⟩ := F.fl
  have n16 := F.n16
  have hj : q * (m - 1 + 1) ≤ 27 := by
    have : m - 1 + 1 = m := by omega
    rw [this, Nat.mul_comm, e]; exact n16
  have h1' := lt_pow h1 hb
  have h2' := lt_pow h2 ha
  have H576 : H * 729 ≤ 2 ^ 90 := by omega
  have key : ∀ k, k ≤ q → WnH H q (m - 1) ^ k < 2 ^ 3200 ∧ ((A + 1) ^ (m - 1) * WnH H q (m - 1)) ^ k < 2 ^ 8000 := fun k hk => by
    obtain ⟨w1, w2⟩ := WnH_pow27 (A := A) h0 q0 hj k hk
    refine ⟨Nat.lt_of_le_of_lt w1 (Nat.lt_of_le_of_lt (Nat.pow_le_pow_left H576 27) (by decide +kernel)), Nat.lt_of_le_of_lt w2 (Nat.lt_of_le_of_lt (Nat.pow_le_pow_left (Nat.mul_le_mul (by omega : A + 1 ≤ 2 ^ 80) H576) 27) (by decide +kernel))⟩
  have q16 : q ≤ 27 := Nat.le_trans (Nat.le_mul_of_pos_right _ (by omega)) hj
  refine ⟨q0, H, A, WnH H q (m - 1), (A + 1) ^ (m - 1) * WnH H q (m - 1), h0, WnH_pos h0 q0 _, h1', h2', fun k hk => ⟨(key k hk).1, ?_, (key k hk).2⟩, ?_, ?_, h3, fun i hi => ?_⟩
  · rw [Nat.mul_pow]
    refine Nat.lt_of_le_of_lt (Nat.mul_le_mul (Nat.le_trans (Nat.pow_le_pow_right (by decide) (by omega : k ≤ 27)) (by decide +kernel : 28 ^ 27 ≤ 2 ^ 130)) (Nat.le_of_lt (key k hk).2)) ?_
    rw [← Nat.pow_add]; exact Nat.pow_lt_pow_right (by decide) (by decide)
  · have := (key 1 q0).1; rwa [Nat.pow_one] at this
  · have := (key 1 q0).2; rwa [Nat.pow_one] at this
  · exact (rootH_iw q0 (fl_zero F.pl) h3 (m - 1) i (by omega)).mono (Nat.mul_le_mul_right _ (Nat.pow_le_pow_right (by omega) (by omega)))
variable {H A' D M : Nat}
def cof (q s i : Nat) : Rat := ((i + 1 : Nat) : Rat) * (1 + q) - ((s + 1 : Nat) : Rat) * q
def trm (q : Nat) (f : List Rat) (s i : Nat) : Rat := cof q s i * (co (fl f) (i + 1) * rt q f (s - i))
def cofZ (q s i : Nat) : Int := (1 + (i : Int)) * (1 + (q : Int)) - (1 + (s : Int)) * (q : Int)
theorem cof_eq (n s i : Nat) : cof n s i = (cofZ n s i : Rat) := by
  unfold cof cofZ
  simp only [Rat.intCast_sub, Rat.intCast_mul, Rat.intCast_add, Rat.natCast_add, Rat.intCast_natCast]
  show _ = ((1 : Rat) + i) * ((1 : Rat) + n) - (1 + s) * n
  show ((i : Rat) + 1) * (1 + n) - ((s : Rat) + 1) * n = _
  grind
theorem prod_small {a b A B : Nat} (ha : a ≤ A) (hb : b ≤ B) : a * b ≤ A * B := Nat.mul_le_mul ha hb
theorem cofZ_le (q16 : q ≤ 27) {s i : Nat} (hs : s < 27) (hi : i ≤ s) : (cofZ q s i).natAbs ≤ 1700 := by
  unfold cofZ
  have e1 : (1 + (i : Int)) * (1 + (q : Int)) = (((1 + i) * (1 + q) : Nat) : Int) := by simp
  have e2 : (1 + (s : Int)) * (q : Int) = (((1 + s) * q : Nat) : Int) := by simp
  rw [e1, e2]
  have h1 := prod_small (by omega : 1 + i ≤ 28) (by omega : 1 + q ≤ 28)
  have h2 := prod_small (by omega : 1 + s ≤ 28) (by omega : q ≤ 28)
  omega
theorem dQ_int (z : Int) : PyData.tuple [.int z, .int 1] = dQ (z : Rat) := by simp [dQ]
theorem Fz.ah (Z : Fz f q t H A' D M) : A' * H < 2 ^ 321 := by
  have := Nat.mul_le_mul (Nat.le_of_lt Z.a) (Nat.le_of_lt Z.h)
  rw [← Nat.pow_add] at this
  exact Nat.lt_of_le_of_lt this (Nat.pow_lt_pow_right (by decide) (by decide))
theorem fl_sm (Z : Fz f q t H A' D M) (i : Nat) : Sm (co (fl f) i) := Iw.sm (Z.fl i) Z.h0 (lt_pow Z.h (by decide)) (lt_pow Z.ah (by decide))
theorem rt_sm (Z : Fz f q t H A' D M) {i : Nat} (hi : i < t) : Sm (rt q f i) := Iw.sm (Z.rt i hi) Z.d0 (lt_pow Z.d (by decide)) (lt_pow Z.m (by decide))
theorem Fz.hd (Z : Fz f q t H A' D M) : H * D < 2 ^ 4480 := by
  have := Nat.mul_le_mul (Nat.le_of_lt Z.h) (Nat.le_of_lt Z.d)
  rw [← Nat.pow_add] at this
  exact Nat.lt_of_le_of_lt this (Nat.pow_lt_pow_right (by decide) (by decide))
theorem Fz.mm (Z : Fz f q t H A' D M) : A' * H * M < 2 ^ 8350 := by
  have := Nat.mul_le_mul (Nat.le_of_lt Z.ah) (Nat.le_of_lt Z.m)
  rw [← Nat.pow_add] at this
  exact Nat.lt_of_le_of_lt this (Nat.pow_lt_pow_right (by decide) (by decide))
theorem hr_iw (Z : Fz f q t H A' D M) {s i : Nat} (hs : s < t) : Iw (H * D) (2 ^ 8350) (co (fl f) (i + 1) * rt q f (s - i)) := ((Z.fl (i + 1)).mul (Z.rt (s - i) (by omega))).mono (Nat.le_of_lt Z.mm)
theorem hr_sm (Z : Fz f q t H A' D M) {s i : Nat} (hs : s < t) : Sm (co (fl f) (i + 1) * rt q f (s - i)) := Iw.sm (hr_iw Z hs) (Nat.mul_pos Z.h0 Z.d0) Z.hd (Nat.pow_lt_pow_right (by decide) (by decide))
theorem trm_iw (Z : Fz f q t H A' D M) (q16 : q ≤ 27) (t16 : t ≤ 27) {s i : Nat} (hs : s < t) (hi : i ≤ s) : Iw (H * D) (2 ^ 8400) (trm q f s i) := by
  unfold trm
  rw [cof_eq]
  have := ((iw_int (cofZ q s i)).mono (cofZ_le q16 (by omega : s < 27) hi)).mul (hr_iw Z (i := i) hs)
  rw [Nat.one_mul] at this
  exact this.mono (by decide +kernel)
theorem trm_sm (Z : Fz f q t H A' D M) (q16 : q ≤ 27) (t16 : t ≤ 27) {s i : Nat} (hs : s < t) (hi : i ≤ s) : Sm (trm q f s i) := Iw.sm (trm_iw Z q16 t16 hs hi) (Nat.mul_pos Z.h0 Z.d0) Z.hd (Nat.pow_lt_pow_right (by decide) (by decide))
theorem tpart_sm (Z : Fz f q t H A' D M) (q16 : q ≤ 27) (t16 : t ≤ 27) {s m : Nat} (hs : s < t) (hm : m ≤ s + 1) : Sm (sumR m (trm q f s)) :=
  Iw.sm ((Iw.sum fun i hi => trm_iw Z q16 t16 hs (by omega)).mono (Nat.mul_le_mul_right _ (by omega : m ≤ 32))) (Nat.mul_pos Z.h0 Z.d0) Z.hd (Nat.lt_of_le_of_lt (by decide +kernel : 32 * 2 ^ 8400 ≤ 2 ^ 8500) (Nat.pow_lt_pow_right (by decide) (by decide)))
theorem cof_sm (q16 : q ≤ 27) {s i : Nat} (hs : s < 27) (hi : i ≤ s) : Sm (cof q s i) := by
  rw [cof_eq]
  refine Iw.sm ((iw_int _).mono (cofZ_le q16 hs hi)) (by decide) (by rw [show 1 = 2 ^ 0 from rfl]; exact Nat.pow_lt_pow_right (by decide) (by decide)) (Nat.lt_trans (by decide : 1700 < 2 ^ 11) (Nat.pow_lt_pow_right (by decide) (by decide)))
/-- one number of the root from those ahead -/
theorem rt_next (F : PL n f) (q0 : 0 < q) (s : Nat) : sumR (min (s + 1) n) (trm q f s) / ((((s + 1) * q : Nat) : Int) : Rat) = rt q f (s + 1) := by
  have rc := root_rec (r := rt q f) (h := co (fl f)) q0 (root_zero _ _) s fun i _ => root_pw q0 (fl_zero F) i
  have e : sumR (s + 1) (trm q f s) = sumR (min (s + 1) n) (trm q f s) := sumR_more (Nat.min_le_left _ _) fun i h1 h2 => by
    unfold trm
    rw [co_ge (f := fl f) (by rw [len_fl F]; omega)]
    grind
  rw [← e]
  have e2 : sumR (s + 1) (trm q f s) = ((s + 1 : Nat) : Rat) * q * rt q f (s + 1) := rc.symm
  rw [e2]
  show ((s + 1 : Nat) : Rat) * q * rt q f (s + 1) / (((s + 1) * q : Nat) : Rat) = _
  rw [← Rat.natCast_mul, Rat.mul_comm, Rat.mul_div_cancel (natR_ne (Nat.mul_pos (by omega) q0))]
def fpI : List Stm := [.asg 8 (.tup [.bin .sub (.bin .mul (.var 7) (.bin .add (.var 1) (.var 2))) (.bin .mul (.var 5) (.var 2)), .int 1]),
      .asg 6 (.call 2 [.var 6, .call 4 [.var 8, .call 4 [.ix (.var 0) (.var 7), .ix (.var 4) (.bin .sub (.var 5) (.var 7))]]])]
def fpO : List Stm := [.asg 6 (.cst 0), .forS (.name 7) (.rng [.int 1, .bin .add (.blt .min [.var 5, .bin .sub (.blt .len [.var 0]) (.int 1)]) (.int 1)]) fpI, .app 4 (.call 5 [.var 6, .tup [.bin .mul (.var 5) (.var 2), .int 1]])]
theorem fp_inner (F : PL n f) (q0 : 0 < q) (q16 : q ≤ 27) (Z : Fz f q t H A' D M) (t16 : t ≤ 27) {s : Nat} (hs : s < t) (y7 y8 : SV) : ∃ st', forF (.name 7) (exB (mean tbl C (k + 3)) C FUEL fpI) ((List.range (min (s + 1) n)).map fun i => .int (1 + (i : Nat))) ⟨[.val (dP (fl f)), .val (.int 1), .val (.int q), .val (.int t), .own ((rL q f s).map dQ), .val (.int (1 + (s : Nat))), .val (dQ 0), y7, y8], S⟩ = some (.nx, st') ∧
    ∃ z7 z8, st' = ⟨[.val (dP (fl f)), .val (.int 1), .val (.int q), .val (.int t), .own ((rL q f s).map dQ), .val (.int (1 + (s : Nat))), .val (dQ (sumR (min (s + 1) n) (trm q f s))), z7, z8], S⟩ := by
  have lf := len_fl F
  refine for_rng (P := fun m st => ∃ z7 z8, st = ⟨[.val (dP (fl f)), .val (.int 1), .val (.int q), .val (.int t), .own ((rL q f s).map dQ), .val (.int (1 + (s : Nat))), .val (dQ (sumR m (trm q f s))), z7, z8], S⟩) ⟨y7, y8, rfl⟩ ?_
  rintro i hi st ⟨z7, z8, rfl⟩
  have i1 : i ≤ s := by omega
  have i2 : i + 1 ≤ n := by omega
  refine ⟨_, _, rfl, ?_, .val (.int (1 + (i : Nat))), .val (dQ (cof q s i)), rfl⟩
  have m1 := mul_int (a := 1 + (i : Int)) (b := 1 + (q : Int)) (.inr (.inl (by omega)))
  have m2 := mul_int (a := 1 + (s : Int)) (b := (q : Int)) (.inr (.inl (by omega)))
  have cz : (1 + (i : Int)) * (1 + (q : Int)) - (1 + (s : Int)) * (q : Int) = cofZ q s i := rfl
  have dc : PyData.tuple [.int (cofZ q s i), .int 1] = dQ (cof q s i) := by rw [dQ_int, cof_eq]
  have x1 : ixD (dP (fl f)) (.int (1 + (i : Int))) = some (.val (dQ (co (fl f) (i + 1)))) := by
    have : 1 + (i : Int) = ((i + 1 : Nat) : Int) := by omega
    rw [this]
    exact ix_tup (by rw [List.getElem?_map, co_lt (by omega)]; rfl)
  have x2 : ixD (.list ((rL q f s).map dQ)) (.int (1 + (s : Int) - (1 + (i : Int)))) = some (.val (dQ (rt q f (s - i)))) := by
    have : 1 + (s : Int) - (1 + (i : Int)) = ((s - i : Nat) : Int) := by omega
    rw [this]
    refine ix_lst ?_
    rw [List.getElem?_map, co_lt (by rw [rootL_len]; omega), rootL_co _ _ (by omega)]; rfl
  have t1 := v_fraction_times (k := k) (S := S) (fl_sm Z (i + 1)) (rt_sm Z (i := s - i) (by omega))
  have t2 := v_fraction_times (k := k) (S := S) (cof_sm q16 (by omega) i1) (hr_sm Z (i := i) hs)
  have t3 := v_fraction_sum (k := k) (S := S) (tpart_sm Z q16 t16 (m := i) hs (by omega)) (trm_sm Z q16 t16 hs i1)
  have et : sumR i (trm q f s) + trm q f s i = sumR (i + 1) (trm q f s) := rfl
  rw [et] at t3
  have t2' : mean tbl C (k + 3) i_fraction_times [.val (dQ (cof q s i)), .val (dQ (co (fl f) (i + 1) * rt q f (s - i)))] S = some (.val (dQ (trm q f s i)), S) := t2
  simp -implicitDefEqProofs [fpI, m1, m2, cz, dc, x1, x2, t1, t2', t3]
theorem fp_outer (F : PL n f) (n16 : n ≤ 27) (q0 : 0 < q) (q16 : q ≤ 27) (Z : Fz f q t H A' D M) (ht : 0 < t) (t16 : t ≤ 27) (y5 y6 y7 y8 : SV) : ∃ st', forF (.name 5) (exB (mean tbl C (k + 3)) C FUEL fpO) ((List.range (t - 1)).map fun i => .int (1 + (i : Nat))) ⟨[.val (dP (fl f)), .val (.int 1), .val (.int q), .val (.int t), .own ([1].map dQ), y5, y6, y7, y8], S⟩ = some (.nx, st') ∧
    ∃ z5 z6 z7 z8, st' = ⟨[.val (dP (fl f)), .val (.int 1), .val (.int q), .val (.int t), .own ((rL q f (t - 1)).map dQ), z5, z6, z7, z8], S⟩ := by
  have lf := len_fl F
  refine for_rng (P := fun s st => ∃ z5 z6 z7 z8, st = ⟨[.val (dP (fl f)), .val (.int 1), .val (.int q), .val (.int t), .own ((rL q f s).map dQ), z5, z6, z7, z8], S⟩) ⟨y5, y6, y7, y8, rfl⟩ ?_
  rintro s hs st ⟨z5, z6, z7, z8, rfl⟩
  obtain ⟨st', h1, w7, w8, rfl⟩ := fp_inner (k := k) (S := S) (t := t) F q0 q16 Z t16 (s := s) (by omega) z7 z8
  refine ⟨_, ⟨[.val (dP (fl f)), .val (.int 1), .val (.int q), .val (.int t), .own ((rL q f (s + 1)).map dQ), .val (.int (1 + (s : Nat))), .val (dQ (sumR (min (s + 1) n) (trm q f s))), w7, w8], S⟩, rfl, ?_, _, _, _, _, rfl⟩
  have rg := rng_two' (a := 1) (b := min (1 + (s : Int)) ((fl f).length - 1) + 1) (m := min (s + 1) n) (by omega) (by omega) (by omega) (by omega)
  have mu := mul_int (a := 1 + (s : Int)) (b := (q : Int)) (.inr (.inl (by omega)))
  have ez : (1 + (s : Int)) * (q : Int) = (((s + 1) * q : Nat) : Int) := by rw [Int.natCast_mul]; congr 1; omega
  rw [ez] at mu
  have dz := dQ_int (((s + 1) * q : Nat) : Int)
  have p13 : (s + 1) * q ≤ 28 * 28 := prod_small (by omega) (by omega)
  have bz : Hb 4480 ((((s + 1) * q : Nat) : Int) : Rat) := by
    refine (Iw.hb (k := 10) Nat.one_pos (iw_int _) ?_ (by decide)).mono (by decide)
    rw [Int.natAbs_natCast]
    exact Nat.lt_of_le_of_lt p13 (by decide)
  have nz : ((((s + 1) * q : Nat) : Int) : Rat) ≠ 0 := natR_ne (Nat.mul_pos (by omega) q0)
  have fb := v_fraction_by (k := k) (S := S) (tpart_sm Z q16 t16 (m := min (s + 1) n) (s := s) (by omega) (by omega)) bz nz
  rw [rt_next F q0] at fb
  have ap : (rL q f s).map dQ ++ [dQ (rt q f (s + 1))] = (rL q f (s + 1)).map dQ := by
    show _ = (rL q f s ++ [_]).map dQ
    rw [List.map_append, List.map_singleton]
    congr 2
    exact congrArg dQ (root_succ _ _ _)
  have la : (rL q f s).length < 1000000 := by rw [rootL_len]; omega
  generalize (List.range (min (s + 1) n)).map (fun i => PyData.int (1 + (i : Nat))) = items at h1 rg
  generalize (((s + 1) * q : Nat) : Int) = zz at mu dz fb
  have c0 : C 0 = dQ 0 := rfl
  simp -implicitDefEqProofs [fpO, c0, rg, h1, mu, dz, fb, ap, la]
theorem v_falling_power (F : PL n f) (n16 : n ≤ 27) (q0 : 0 < q) (q16 : q ≤ 27) (Z : Fz f q t H A' D M) (ht : 0 < t) (t16 : t ≤ 27) : mean tbl C (k + 4) i_falling_power [.val (dP (fl f)), .val (.int 1), .val (.int q), .val (.int t)] S = some (.val (dP (rL q f (t - 1))), S) := by
  have lf := len_fl F
  obtain ⟨st', h1, y5, y6, y7, y8, rfl⟩ := fp_outer (k := k) (S := S) F n16 q0 q16 Z ht t16 .un .un .un .un
  have rg := rng_two' (a := 1) (b := (t : Int)) (m := t - 1) (by omega) (by omega) (by omega) (by omega)
  have lt : (rL q f (t - 1)).length = t := by rw [rootL_len]; omega
  have ct := cutL_to (xs := (rL q f (t - 1)).map dQ) (m := t) (by simp [lt])
  rw [List.take_of_length_le (by simp [lt])] at ct
  generalize (List.range (t - 1)).map (fun i => PyData.int (1 + (i : Nat))) = items at h1 rg
  simp only [List.map_cons, List.map_nil] at h1
  have e2 := evi_rng2 (Φ := mean tbl C (k + 3)) (C := C) (a := .int 1) (b := .var 3) (st := ⟨[.val (dP (fl f)), .val (.int 1), .val (.int q), .val (.int t), .own [dQ 1], .un, .un, .un, .un], S⟩) (st' := ⟨[.val (dP (fl f)), .val (.int 1), .val (.int q), .val (.int t), .own [dQ 1], .un, .un, .un, .un], S⟩) (by simp) rg
  have s1 : exS (mean tbl C (k + 3)) C FUEL (.asg 4 (.lst [.cst 1])) ⟨[.val (dP (fl f)), .val (.int 1), .val (.int q), .val (.int t), .un, .un, .un, .un, .un], S⟩ = some (.nx, ⟨[.val (dP (fl f)), .val (.int 1), .val (.int q), .val (.int t), .own [dQ 1], .un, .un, .un, .un], S⟩) := by simp [c1]
  have s2 : exS (mean tbl C (k + 3)) C FUEL (.forS (.name 5) (.rng [.int 1, .var 3]) fpO) ⟨[.val (dP (fl f)), .val (.int 1), .val (.int q), .val (.int t), .own [dQ 1], .un, .un, .un, .un], S⟩ = some (.nx, ⟨[.val (dP (fl f)), .val (.int 1), .val (.int q), .val (.int t), .own ((rL q f (t - 1)).map dQ), y5, y6, y7, y8], S⟩) := by
    rw [exS_forS, gFor_eq, e2, Option.bind_some]
    exact h1
  have s3 : exS (mean tbl C (k + 3)) C FUEL (.ret (.blt .tuple [.slH (.var 4) (.var 3)])) ⟨[.val (dP (fl f)), .val (.int 1), .val (.int q), .val (.int t), .own ((rL q f (t - 1)).map dQ), y5, y6, y7, y8], S⟩ = some (.rt (.val (dP (rL q f (t - 1)))), ⟨[.val (dP (fl f)), .val (.int 1), .val (.int q), .val (.int t), .own ((rL q f (t - 1)).map dQ), y5, y6, y7, y8], S⟩) := by simp [ct, tup_dP]
  rw [u_falling_power]
  have body : b_falling_power = [.asg 4 (.lst [.cst 1]), .forS (.name 5) (.rng [.int 1, .var 3]) fpO, .ret (.blt .tuple [.slH (.var 4) (.var 3)])] := rfl
  rw [body]
  have hb := (ex_nx s1).trans ((ex_nx s2).trans (ex_rt (b := []) s3))
  have q : (List.map slA [A.val (dP (fl f)), .val (.int 1), .val (.int q), .val (.int t)] ++ List.replicate (9 - 4) SV.un) = [.val (dP (fl f)), .val (.int 1), .val (.int q), .val (.int t), .un, .un, .un, .un, .un] := by simp [List.replicate]
  have z := fn_rt (np := 4) rfl q hb
  exact z
end
end K48

set_option Elab.async false
set_option linter.all false
set_option maxRecDepth 100000
set_option maxHeartbeats 4000000
set_option exponentiation.threshold 200000
set_option autoImplicit false
namespace K48
open PySem DE
open L2 (ixN)
section
variable {k : Nat} {S : Option Src} {x y : Rat} {f g A B : List Rat} {n m q t many bh ab kk : Nat} {H A' D M : Nat}
theorem dQ_1 : PyData.tuple [.int 1, .int 1] = dQ 1 := rfl
theorem Sm.neg (h : Sm x) : Sm (-x) := ⟨by rw [Rat.neg_num, Int.natAbs_neg]; exact h.1, by rw [Rat.neg_den]; exact h.2⟩
theorem v_from_falls (m0 : 0 < m) (m16 : m ≤ 27) : mean tbl C (k + 2) i_from_falls [.val (dP (rL q f (m - 1))), .val (.int m)] S = some (.val (dP (cand f m q)), S) := by
  have lr : (rL q f (m - 1)).length = m := by rw [rootL_len]; omega
  have ct := cut_to (xs := (rL q f (m - 1)).map dQ) (n := m) (by rw [List.length_map, lr]; exact Nat.le_refl _)
  rw [List.take_of_length_le (by rw [List.length_map, lr]; exact Nat.le_refl _)] at ct
  have ct' : slD (dP (rL q f (m - 1))) none (some (m : Int)) = some (.val (dP (rL q f (m - 1)))) := ct
  have rv : revD (dP (rL q f (m - 1))) = some (.val (dP (rL q f (m - 1)).reverse)) := by simp [revD, dP]
  have sq : seqItems (dP (rL q f (m - 1)).reverse) = some ((rL q f (m - 1)).reverse.map dQ) := rfl
  have po := v_poly_of (k := k) (S := S) (f := cand f m q) (by rw [(cand_nm m0).len]; omega)
  rw [trim_of_tr (cand_nm m0).tr] at po
  have ec : (cand f m q).map dQ = dQ 0 :: (rL q f (m - 1)).reverse.map dQ := rfl
  rw [ec] at po
  have ll : ((rL q f (m - 1)).reverse.map dQ).length + 1 ≤ 1000000 := by rw [List.length_map, List.length_reverse, lr]; omega
  have c0 : C 0 = dQ 0 := rfl
  rw [u_from_falls]
  simp only [b_from_falls]
  generalize dP (cand f m q) = cd at *
  generalize (rL q f (m - 1)).reverse.map dQ = Lr at *
  generalize dP (rL q f (m - 1)).reverse = dr at *
  generalize dP (rL q f (m - 1)) = d1 at *
  simp -implicitDefEqProofs [ct', rv, sq, c0, ll, po]
theorem v_candidate_of (F : PF bh ab n f) (e : m * q = n) (m0 : 0 < m) (q0 : 0 < q) (Z : Fz f q m H A' D M) : mean tbl C (k + 7) i_candidate_of [.val (dP f), .val (.int m)] S = some (.val (dP (cand f m q)), S) := by
  have n16 := F.n16
  have q16 : q ≤ 27 := Nat.le_trans (Nat.le_mul_of_pos_left _ m0) (by rw [e]; exact n16)
  have m16 : m ≤ 27 := Nat.le_trans (Nat.le_mul_of_pos_right _ q0) (by rw [e]; exact n16)
  have h1 := v_normal_of (k := k) (S := S) F
  have h2 := v_falls_of (k := k + 5) (S := S) (f := nrm f)
  have h3 := v_degree_of (k := k + 5) (S := S) (f := f) F.ne
  have e1 : (f.length : Int) - 1 = (n : Int) := by rw [F.len]; omega
  rw [e1] at h3
  have fd : bopD .fdiv (.int (n : Int)) (.int (m : Int)) = some (.val (.int (q : Int))) := by
    rw [fdiv_nat (by omega) (Nat.lt_trans (bits_of_lt (n := 10) (by rw [Int.natAbs_natCast]; omega) (by decide)) (by decide))]
    rw [← e, Nat.mul_div_cancel_left _ m0]
  have h4 := v_falling_power (k := k + 2) (S := S) F.pl n16 q0 q16 Z m0 m16
  have h5 := v_from_falls (k := k + 4) (S := S) (f := f) (q := q) m0 m16
  have ix : ixD (.tuple [dQ (co f n), dQ (co f 0), dP (nrm f)]) (.int 2) = some (.val (dP (nrm f))) := rfl
  have ef : (nrm f).reverse = fl f := rfl
  rw [ef] at h2
  rw [u_candidate_of]
  simp only [b_candidate_of]
  generalize dP (cand f m q) = cd at *
  generalize dP (rL q f (m - 1)) = d1 at *
  generalize dP (nrm f) = d2 at *
  generalize dP (fl f) = d3 at *
  simp -implicitDefEqProofs [h3, h1, ix, h2, fd, h4, h5]
end
end K48

set_option Elab.async false
set_option linter.all false
set_option maxRecDepth 100000
set_option maxHeartbeats 4000000
set_option exponentiation.threshold 200000
set_option autoImplicit false
namespace K48
open PySem DE
open L2 (ixN)
section
variable {k : Nat} {x y : Rat} {p q : Int} {f g h : List Rat} {n t : Nat}
/-- a source that has few cells left -/
def Sk (s : Src) : Prop := s.cells.length ≤ 1000
theorem pick_loop {Φ : Nat → Fn} {a b c d : SV} : ∀ (n : Nat) (s : Src), s.cells.length < n → ∃ s', s'.cells.length ≤ s.cells.length ∧
    whileF (fT (ev Φ C (.and (.cmp .lt (.sfld 0 .left) (.int 2)) (.cmp .gt (.clen 2) (.int 0))))) (exB Φ C FUEL [.cpop 0 2]) n ⟨[.src, a, .cel, b, c, d], some s⟩ = some (.nx, ⟨[.src, a, .cel, b, c, d], some s'⟩) := by
  intro n
  induction n with
  | zero => intro s h; omega
  | succ n ih =>
    intro s h
    by_cases h2 : s.left < 2
    · by_cases h3 : s.cells = []
      · exact ⟨s, Nat.le_refl _, by simp only [whileF]; simp -implicitDefEqProofs [h2, h3]⟩
      · have hp : 0 < s.cells.length := List.length_pos_iff.mpr h3
        obtain ⟨s', h4, h5⟩ := ih { s with left := s.cells.getLastD 0, cells := s.cells.dropLast } (by simp; omega)
        refine ⟨s', by simp at h4; omega, ?_⟩
        rw [← h5]
        simp only [whileF]
        simp -implicitDefEqProofs [h2, hp, popS_ne h3]
    · exact ⟨s, Nat.le_refl _, by simp only [whileF]; simp -implicitDefEqProofs [h2]⟩
theorem v__law_pick {s : Src} (hs : Sk s) {m : Nat} (hm : m ≤ 1000000) : ∃ (r : Nat) (s' : Src), r < max 1 m ∧ Sk s' ∧ mean tbl C (k + 1) i__law_pick [.src, .val (.int m)] (some s) = some (.val (.int r), some s') := by
  by_cases c0 : (m : Int) < 2
  · refine ⟨0, s, by omega, hs, ?_⟩
    rw [u__law_pick]
    simp only [b__law_pick]
    simp -implicitDefEqProofs [c0]
  obtain ⟨s1, h1, h2⟩ := pick_loop (Φ := mean tbl C k) (a := .val (.int m)) (b := .un) (c := .un) (d := .un) FUEL s (fuel_big (Nat.lt_of_le_of_lt hs (by decide +kernel)))
  have bM : bits (m : Int) < 9000 := Nat.lt_trans (bits_of_lt (n := 30) (by rw [Int.natAbs_natCast]; exact Nat.lt_of_le_of_lt hm (by decide)) (by decide)) (by decide)
  have fdv := fdiv_int (a := s1.left) (b := (m : Int)) ⟨by omega, bM⟩
  have md := mod_int (a := s1.left) (b := (m : Int)) (by omega)
  by_cases c : 1 < s1.left
  · have r0 := Int.fmod_nonneg_of_pos s1.left (b := (m : Int)) (by omega)
    have r1 := Int.fmod_lt_of_pos s1.left (b := (m : Int)) (by omega)
    refine ⟨(s1.left.fmod m).toNat, { s1 with left := s1.left.fdiv m }, by omega, Nat.le_trans h1 hs, ?_⟩
    have e : (((s1.left.fmod m).toNat : Nat) : Int) = s1.left.fmod m := by omega
    rw [u__law_pick, e]
    simp only [b__law_pick]
    simp -implicitDefEqProofs [c0, h2, c, fdv, md]
  · generalize ht : s1.turn + 1 = T
    have mu1 := mul_int (a := T) (b := 104729) (.inr (.inr (by decide)))
    have mu2 := mul_int (a := T) (b := 17) (.inr (.inr (by decide)))
    have md1 := mod_int (a := s1.mixed + T * 104729) (b := 998244353) (by decide)
    have p0 := Int.fmod_nonneg_of_pos (s1.mixed + T * 104729) (b := 998244353) (by decide)
    have p1 := Int.fmod_lt_of_pos (s1.mixed + T * 104729) (b := 998244353) (by decide)
    generalize hA : (s1.mixed + T * 104729).fmod 998244353 = A at *
    have mu3 := mul_int (a := A) (b := A) (.inr (.inl (by omega)))
    have md2 := mod_int (a := A * A + T * 17) (b := 2147483647) (by decide)
    generalize hB : (A * A + T * 17).fmod 2147483647 = B at *
    have fd := fdiv_int (a := B) (b := 16) ⟨by decide, by decide⟩
    have md3 := mod_int (a := B.fdiv 16) (b := (m : Int)) (by omega)
    have r0 := Int.fmod_nonneg_of_pos (B.fdiv 16) (b := (m : Int)) (by omega)
    have r1 := Int.fmod_lt_of_pos (B.fdiv 16) (b := (m : Int)) (by omega)
    refine ⟨((B.fdiv 16).fmod m).toNat, { s1 with turn := T }, by omega, Nat.le_trans h1 hs, ?_⟩
    have e : ((((B.fdiv 16).fmod m).toNat : Nat) : Int) = (B.fdiv 16).fmod m := by omega
    rw [u__law_pick, e]
    simp only [b__law_pick]
    simp -implicitDefEqProofs [c0, h2, c, ht, mu1, md1, mu3, mu2, md2, fd, md3]
theorem intsOf_map (cs : List Int) : intsOf (cs.map PyData.int) = some cs := by
  induction cs with
  | nil => rfl
  | cons c cs ih => simp [intsOf, ih]
theorem v__law_open_cells {ns : List Int} (hn : ns.length ≤ 63) : ∃ s' : Src, Sk s' ∧ mean tbl C (k + 1) i__law_open_cells [.scr ns] none = some (.src, some s') := by
  obtain ⟨st', h1, x2, h2⟩ := for_inv (tg := .name 2) (ψ := exB (mean tbl C k) C FUEL [.asg 1 (.bin .mod (.blt .int [.bin .add (.bin .add (.bin .mul (.var 1) (.int 69069)) (.bin .mul (.var 2) (.int 31))) (.int 5)]) (.int 2147483629))]) PyData.int
    (fun (z : Int) st => ∃ x2, st = ⟨[.scr ns, .val (.int z), x2, .un], none⟩) (fun z c => (z * 69069 + c * 31 + 5).fmod 2147483629) ns 11 ⟨[.scr ns, .val (.int 11), .un, .un], none⟩ ⟨_, rfl⟩ (by
      rintro c hc z st ⟨x2, rfl⟩
      refine ⟨_, _, rfl, ?_, .val (.int c), rfl⟩
      have m1 := mul_int (a := z) (b := 69069) (.inr (.inr (by decide)))
      have m2 := mul_int (a := c) (b := 31) (.inr (.inr (by decide)))
      have m3 := mod_int (a := z * 69069 + c * 31 + 5) (b := 2147483629) (by decide)
      simp -implicitDefEqProofs [m1, m2, m3])
  subst h2
  generalize List.foldl (fun z c => (z * 69069 + c * 31 + 5).fmod 2147483629) 11 ns = z at h1
  have lc : lcLoop [2] (.name 2) (fT (ev (mean tbl C k) C .yes)) (fV (ev (mean tbl C k) C (.blt .abs [.var 2]))) (ns.map PyData.int) [] ⟨[.scr ns, .val (.int z), x2, .un], none⟩ = some ((ns.map fun c => ((c.natAbs : Nat) : Int)).map PyData.int, ⟨[.scr ns, .val (.int z), x2, .un], none⟩) := by
    rw [List.map_map]
    exact lc_mapG0 _ _ yes_true _ (fun c _ => ⟨[.scr ns, .val (.int z), .val (.int c), .un], [.scr ns, .val (.int z), .val (.int c), .un], rfl, by simp, rfl⟩) (by show _ ≤ 1000000; omega)
  have rv : ((ns.map fun c => ((c.natAbs : Nat) : Int)).map PyData.int).reverse = (ns.map fun c => ((c.natAbs : Nat) : Int)).reverse.map PyData.int := by rw [List.map_reverse]
  refine ⟨⟨(ns.map fun c => ((c.natAbs : Nat) : Int)).reverse, 1, z, 0⟩, by unfold Sk; simp; omega, ?_⟩
  rw [u__law_open_cells]
  simp only [b__law_open_cells]
  have io := intsOf_map (ns.map fun c => ((c.natAbs : Nat) : Int)).reverse
  rw [← rv] at io
  clear rv
  generalize (ns.map fun c => ((c.natAbs : Nat) : Int)) = cs at *
  simp -implicitDefEqProofs [h1, gRsrc, lc, revD, io]
/-! drawn fractions and polynomials -/
theorem div_small {p q : Int} (hq : 0 < q) : (Rat.divInt p q).num.natAbs ≤ p.natAbs ∧ ((Rat.divInt p q).den : Int) ≤ q := by
  obtain ⟨h1, h2⟩ := low_pos (p := p) hq
  have g := g2_pos (p := p) (by omega : q ≠ 0)
  rw [h1, h2]
  have gn : g2 p q = ((g2 p q).natAbs : Int) := by omega
  refine ⟨?_, Int.ediv_le_self _ (by omega)⟩
  rw [Int.natAbs_ediv_of_dvd (g2_dvd_l p q)]
  exact Nat.div_le_self _ _
/-- a drawn fraction -/
def Fr (far bot : Nat) (x : Rat) : Prop := x.num.natAbs ≤ far ∧ x.den ≤ bot
theorem v__law_fraction {s : Src} (hs : Sk s) {far bot : Nat} (hf : far ≤ 1000) (hb : bot ≤ 1000) (hb0 : 0 < bot) : ∃ (x : Rat) (s' : Src), Fr far bot x ∧ Sk s' ∧ mean tbl C (k + 2) i__law_fraction [.src, .val (.int far), .val (.int bot)] (some s) = some (.val (dQ x), some s') := by
  obtain ⟨r, s1, h1, h2, h3⟩ := v__law_pick (k := k) hs (m := 2 * far + 1) (by omega)
  obtain ⟨r2, s2, g1, g2, g3⟩ := v__law_pick (k := k) h2 (m := bot) (by omega)
  have e1 : 2 * (far : Int) + 1 = ((2 * far + 1 : Nat) : Int) := by omega
  have mu := mul_int (a := 2) (b := (far : Int)) (.inr (.inl (by decide)))
  have q0 : 1 + (r2 : Int) ≠ 0 := by omega
  have bq : bits (1 + (r2 : Int)) < 9000 := Nat.lt_trans (bits_of_lt (n := 11) (by omega) (by decide)) (by decide)
  have lw := v__law_low (k := k) (S := some s2) (p := (r : Int) - far) (q := 1 + (r2 : Int)) q0 bq
  obtain ⟨d1, d2⟩ := div_small (p := (r : Int) - far) (q := 1 + (r2 : Int)) (by omega)
  refine ⟨_, s2, ⟨Nat.le_trans d1 (by omega), by omega⟩, g2, ?_⟩
  rw [← e1] at h3
  rw [u__law_fraction]
  simp only [b__law_fraction]
  generalize dQ (Rat.divInt ((r : Int) - far) (1 + (r2 : Int))) = dd at *
  simp -implicitDefEqProofs [mu, h3, g3, lw]
theorem fracs {far bot n : Nat} (hf : far ≤ 1000) (hb : bot ≤ 1000) (hb0 : 0 < bot) {a b c : SV} {γ : List SV} (hγ : γ = [.src, a, .val (.int far), .val (.int bot), b, c, .un]) : ∀ (items : List D) (s : Src) (acc : List D), Sk s → acc.length + items.length ≤ most →
    ∃ (xs : List Rat) (s' : Src), xs.length = items.length ∧ (∀ x ∈ xs, Fr far bot x) ∧ Sk s' ∧ lcLoop [6] (.name 6) (fT (ev (mean tbl C (k + 2)) C .yes)) (fV (ev (mean tbl C (k + 2)) C (.call 45 [.var 0, .var 2, .var 3]))) items acc ⟨γ, some s⟩ = some (acc ++ xs.map dQ, ⟨γ, some s'⟩)
  | [], s, acc, hs, _ => ⟨[], s, rfl, by simp, hs, by simp [lcLoop]⟩
  | d :: items, s, acc, hs, hl => by
    subst hγ
    obtain ⟨x, s1, h1, h2, h3⟩ := v__law_fraction (k := k) hs hf hb hb0
    have hl' : acc.length + (items.length + 1) ≤ most := hl
    obtain ⟨xs, s2, h4, h5, h6, h7⟩ := fracs (n := n) hf hb hb0 (γ := [.src, a, .val (.int far), .val (.int bot), b, c, .un]) rfl items s1 (acc ++ [dQ x]) h2 (by rw [List.length_append]; simp only [List.length_singleton]; omega)
    refine ⟨x :: xs, s2, by simp [h4], by simpa using ⟨h1, h5⟩, h6, ?_⟩
    have b1 : bindT (.name 6) d (wipeG [.src, a, .val (.int far), .val (.int bot), b, c, .un] [6]) = some [.src, a, .val (.int far), .val (.int bot), b, c, .val d] := rfl
    have b2 : restG [.src, a, .val (.int far), .val (.int bot), b, c, .un] [.src, a, .val (.int far), .val (.int bot), b, c, .val d] [6] = [.src, a, .val (.int far), .val (.int bot), b, c, .un] := rfl
    have ev1 : fV (ev (mean tbl C (k + 2)) C (.call 45 [.var 0, .var 2, .var 3])) ⟨[.src, a, .val (.int far), .val (.int bot), b, c, .val d], some s⟩ = some (dQ x, ⟨[.src, a, .val (.int far), .val (.int bot), b, c, .val d], some s1⟩) := by simp -implicitDefEqProofs [h3]
    unfold lcLoop
    dsimp only
    rw [b1, Option.bind_some, yes_true, Option.bind_some]
    dsimp only
    rw [if_pos rfl, ev1, Option.bind_some]
    dsimp only
    rw [if_pos (by omega), b2, h7]
    simp
/-- a drawn polynomial -/
structure Dr (far bot n : Nat) (f : List Rat) : Prop where
  len : f.length = n + 1
  nz : co f n ≠ 0
  fr : ∀ x ∈ f, Fr far bot x
theorem v__law_poly {s : Src} (hs : Sk s) {far bot : Nat} (hf : far ≤ 1000) (hb : bot ≤ 1000) (hb0 : 0 < bot) (hf0 : 0 < far) (n16 : n ≤ 100) : ∃ (f : List Rat) (s' : Src), Dr far bot n f ∧ Sk s' ∧ mean tbl C (k + 3) i__law_poly [.src, .val (.int n), .val (.int far), .val (.int bot)] (some s) = some (.val (dP f), some s') := by
  obtain ⟨z, s1, h1, h2, h3⟩ := v__law_fraction (k := k) hs hf hb hb0
  obtain ⟨xs, s2, g1, g2, g3, g4⟩ := fracs (k := k) (n := n) hf hb hb0 (a := .val (.int n)) (b := .val (dQ z)) (c := .un) rfl ((List.range n).map fun i => .int (i : Nat)) s1 [] h2 (by show _ ≤ 1000000; simp; omega)
  have lx : xs.length = n := by simpa using g1
  have fin : ∀ w : Rat, w ≠ 0 → Fr far bot w → Dr far bot n (xs ++ [w]) := fun w hw fw => by
    have e : co (xs ++ [w]) n = w := by simp [co, List.getD, ← lx]
    refine ⟨by simp [lx], by rw [e]; exact hw, fun x hx => ?_⟩
    rcases List.mem_append.mp hx with hx | hx
    · exact g2 x hx
    · rw [List.mem_singleton.mp hx]; exact fw
  have rg := rng_one' (n := n) (by omega)
  have i0 : ixD (dQ z) (.int 0) = some (.val (.int z.num)) := rfl
  have dQ_1 : PyData.tuple [.int 1, .int 1] = dQ 1 := rfl
  by_cases hz : z = 0
  · refine ⟨xs ++ [1], s2, fin 1 (by decide) ⟨hf0, hb0⟩, g3, ?_⟩
    have ad := add_lst (xs := xs.map dQ) (ys := [dQ 1]) (by simp; omega)
    have e : dP (xs ++ [1]) = .tuple (xs.map dQ ++ [dQ 1]) := by simp [dP]
    have zn : z.num = 0 := by rw [hz]; rfl
    rw [e, u__law_poly]
    simp only [b__law_poly]
    generalize (List.range n).map (fun i => PyData.int (i : Nat)) = items at *
    simp only [List.nil_append] at g4
    generalize xs.map dQ = L at *
    simp -implicitDefEqProofs [h3, rg, g4, i0, zn, dQ_1, ad]
  · refine ⟨xs ++ [z], s2, fin z hz h1, g3, ?_⟩
    have ad := add_lst (xs := xs.map dQ) (ys := [dQ z]) (by simp; omega)
    have e : dP (xs ++ [z]) = .tuple (xs.map dQ ++ [dQ z]) := by simp [dP]
    have zn : z.num ≠ 0 := num_ne hz
    rw [e, u__law_poly]
    simp only [b__law_poly]
    generalize (List.range n).map (fun i => PyData.int (i : Nat)) = items at *
    simp only [List.nil_append] at g4
    generalize xs.map dQ = L at *
    simp -implicitDefEqProofs [h3, rg, g4, i0, zn, dQ_1, ad]
/-! what is drawn is not great -/
/-- one of several -/
theorem v__law_of {s : Src} (hs : Sk s) {ds : List D} (h0 : ds ≠ []) (hl : ds.length ≤ 1000) : ∃ (d : D) (s' : Src), d ∈ ds ∧ Sk s' ∧ mean tbl C (k + 2) i__law_of [.src, .val (.list ds)] (some s) = some (.val d, some s') := by
  have hp : 0 < ds.length := List.length_pos_iff.mpr h0
  obtain ⟨r, s', h1, h2, h3⟩ := v__law_pick (k := k) hs (m := ds.length) (by omega)
  have hr : r < ds.length := by omega
  refine ⟨ds[r], s', List.getElem_mem hr, h2, ?_⟩
  have ix : ixD (.list ds) (.int (r : Nat)) = some (.val ds[r]) := ix_lst (by simp [hr])
  rw [u__law_of]
  simp only [b__law_of]
  simp [h3, ix]
theorem pi_mem {D M : Nat} (h0 : 0 < D) (h : ∀ x ∈ f, Iw D M x) : PI D M f := ⟨h0, fun i => mem_co (P := Iw D M) h (Iw.zero _ _) i⟩
/-- what f must be -/
theorem pf_of {D M : Nat} (hl : f.length = n + 1) (n0 : 0 < n) (n16 : n ≤ 27) (nz : co f n ≠ 0) (P : PI D M f) (hD : D < 2 ^ 80) (hM : M < 2 ^ 80) : PF 80 80 n f := by
  have L : PL n f := ⟨hl, n0, nz⟩
  have hbs : ∀ i, Hb 80 (co f i) := fun i => (P.iw i).hb P.pos hM hD
  obtain ⟨z, ez, lz⟩ := P.iw n
  have z0 : z ≠ 0 := fun h => by
    rw [h] at ez
    have : co f n * (D : Rat) = 0 := ez
    rcases Rat.mul_eq_zero.mp this with w | w
    · exact nz w
    · exact natR_ne P.pos w
  refine ⟨L, n16, fun i => (hbs i).mono (by decide), ?_, z.natAbs, M, by omega, by omega, hM, fun i => ?_⟩
  · have h := hbs n
    have nzn := num_ne nz
    rw [Rat.div_def, Rat.one_mul, Rat.inv_def]
    exact (Hb.div (n := 80) (by simpa using h.2) h.1 nzn).mono (by decide)
  · rw [co_fl L, rv]
    split
    · rw [co_nrm L]
      split
      · exact Iw.zero _ _
      · obtain ⟨w, ew, lw⟩ := P.iw (n - i)
        have key : co f (n - i) / co f n * (z : Rat) = (w : Rat) := by
          rw [← ez, ← ew, Rat.div_def]
          have : co f (n - i) * (co f n)⁻¹ * (co f n * (D : Rat)) = (co f n * (co f n)⁻¹) * (co f (n - i) * (D : Rat)) := by grind
          rw [this, Rat.mul_inv_cancel _ nz, Rat.one_mul]
        have lm : M ≤ M * z.natAbs := Nat.le_mul_of_pos_right _ (by omega)
        rcases Int.natAbs_eq z with hz | hz
        · refine ⟨w, ?_, Nat.le_trans lw lm⟩
          rw [← key]; congr 1
          exact (congrArg (Int.cast (R := Rat)) hz).symm
        · refine ⟨-w, ?_, by rw [Int.natAbs_neg]; exact Nat.le_trans lw lm⟩
          rw [Rat.intCast_neg, ← key]
          have : (z : Rat) = -((z.natAbs : Nat) : Rat) := by
            have := congrArg (Int.cast (R := Rat)) hz
            rw [Rat.intCast_neg] at this
            exact this
          rw [this]; grind
    · exact Iw.zero _ _
end
end K48

set_option Elab.async false
set_option linter.all false
set_option maxRecDepth 100000
set_option maxHeartbeats 4000000
set_option exponentiation.threshold 200000
set_option autoImplicit false
namespace K48
open PySem DE
open L2 (ixN)
section
variable {k : Nat} {S : Option Src} {x y : Rat} {f g h : List Rat} {n m q t c d : Nat} {A M E N : Nat}
/-! put into one another -/
def part (g h : List Rat) (i : Nat) : List Rat := compP (g.drop (g.length - i)) h
theorem part_zero : part g h 0 = [] := by unfold part; rw [Nat.sub_zero, List.drop_length]; rfl
theorem part_all : part g h g.length = compP g h := by unfold part; rw [Nat.sub_self, List.drop_zero]
theorem part_succ {i : Nat} (hi : i < g.length) : part g h (i + 1) = stepP h (part g h i) (co g (g.length - 1 - i)) := by
  unfold part
  have e : g.drop (g.length - (i + 1)) = co g (g.length - 1 - i) :: g.drop (g.length - i) := by
    rw [List.drop_eq_getElem_cons (by omega)]
    have e1 := co_lt (f := g) (i := g.length - 1 - i) (by omega)
    rw [List.getElem?_eq_getElem (by omega)] at e1
    congr 1
    · rw [← Option.some.inj e1]; congr 1; omega
    · congr 1; omega
  rw [e]; rfl
theorem co_one (x : Rat) (i : Nat) : co (trim [x]) i = if i = 0 then x else 0 := by
  rw [co_trim]
  cases i <;> simp
theorem sm_one (hx : Sm x) : Sl (trim [x]) := mem_trim fun z hz => by rw [List.mem_singleton.mp hz]; exact hx
theorem v__law_put (hh : PI E N h) (lh : h.length ≤ 100) (lg : g.length ≤ 100) (hx : ∀ i, Sm (co g i)) (hS : ∀ i, i ≤ g.length → ∃ D M, PI D M (part g h i) ∧ Ps D M E N ∧ (part g h i).length ≤ 300) : mean tbl C (k + 4) i__law_put [.val (dP g), .val (dP h)] S = some (.val (dP (compP g h)), S) := by
  obtain ⟨st', h1, y3, rfl⟩ := for_rng (tg := .name 3) (ψ := exB (mean tbl C (k + 3)) C FUEL [.asg 2 (.call 42 [.call 43 [.var 2, .var 1], .call 41 [.lst [.var 3]]])]) (e := fun i => dQ (co g (g.length - 1 - i))) (n := g.length) (st := ⟨[.val (dP g), .val (dP h), .val (dP (part g h 0)), .un], S⟩) (P := fun i st => ∃ y3, st = ⟨[.val (dP g), .val (dP h), .val (dP (part g h i)), y3], S⟩) ⟨_, rfl⟩ (by
    rintro i hi st ⟨y3, rfl⟩
    refine ⟨_, _, rfl, ?_, .val (dQ (co g (g.length - 1 - i))), rfl⟩
    obtain ⟨D, M, P, B, l3⟩ := hS i (by omega)
    have pr := v__law_product (k := k) (S := S) P hh B (by omega) (by omega)
    have lm := len_mulP (part g h i) h
    have cu := v__law_cut (k := k + 2) (S := S) (f := [co g (g.length - 1 - i)]) (by simp)
    simp only [List.map_cons, List.map_nil] at cu
    have pm := P.mulr hh (Nat.le_refl _)
    have sl := pm.sl B.d (by
      have a1 := Nat.mul_le_mul_right (M * N) lh
      have a2 := B.mn
      have : h.length * (M * N) < 2 ^ 7 * 2 ^ 80001 := by omega
      rw [← Nat.pow_add] at this
      exact Nat.lt_trans this (Nat.pow_lt_pow_right (by decide) (by decide)))
    have pl := v__law_plus (k := k) (S := S) sl (sm_one (hx (g.length - 1 - i))) (by omega) (Nat.le_trans (trim_len _) (by simp))
    rw [part_succ hi]
    have e : addP (mulP (part g h i) h) (trim [co g (g.length - 1 - i)]) = stepP h (part g h i) (co g (g.length - 1 - i)) := rfl
    rw [e] at pl
    generalize dP (stepP h (part g h i) (co g (g.length - 1 - i))) = a1 at *
    generalize dP (mulP (part g h i) h) = a2 at *
    generalize dP (part g h i) = a3 at *
    generalize dP (trim [co g (g.length - 1 - i)]) = a4 at *
    simp -implicitDefEqProofs [pr, cu, pl])
  rw [part_zero, part_all] at h1
  have rv : revD (dP g) = some (.val (dP g.reverse)) := by simp [revD, dP]
  have sq : seqItems (dP g.reverse) = some ((List.range g.length).map fun i => dQ (co g (g.length - 1 - i))) := by
    show some (g.reverse.map dQ) = _
    congr 1
    apply List.ext_getElem?
    intro i
    by_cases hi : i < g.length
    · rw [List.getElem?_map, List.getElem?_reverse hi, co_lt (by omega), List.getElem?_map, List.getElem?_range hi]; rfl
    · rw [List.getElem?_eq_none (by simp; omega), List.getElem?_eq_none (by simp; omega)]
  rw [u__law_put]
  simp only [b__law_put]
  rw [← nil_dP] at h1
  generalize dP (compP g h) = r at *
  generalize dP g.reverse = gr at *
  generalize (List.range g.length).map (fun i => dQ (co g (g.length - 1 - i))) = items at *
  simp -implicitDefEqProofs [rv, sq, h1]
theorem v_poly_within (hh : PI E N h) (lh : h.length ≤ 100) (lg : g.length ≤ 100) (hx : ∀ i, Sm (co g i)) (hS : ∀ i, i ≤ g.length → ∃ D M, PI D M (part g h i) ∧ Ps D M E N ∧ (part g h i).length ≤ 300) : mean tbl C (k + 5) i_poly_within [.val (dP g), .val (dP h)] S = some (.val (dP (compP g h)), S) := by
  obtain ⟨st', h1, y3, rfl⟩ := for_rng (tg := .name 3) (ψ := exB (mean tbl C (k + 4)) C FUEL [.asg 2 (.call 14 [.call 18 [.var 2, .var 1], .call 12 [.var 3]])]) (e := fun i => dQ (co g (g.length - 1 - i))) (n := g.length) (st := ⟨[.val (dP g), .val (dP h), .val (dP (part g h 0)), .un], S⟩) (P := fun i st => ∃ y3, st = ⟨[.val (dP g), .val (dP h), .val (dP (part g h i)), y3], S⟩) ⟨_, rfl⟩ (by
    rintro i hi st ⟨y3, rfl⟩
    refine ⟨_, _, rfl, ?_, .val (dQ (co g (g.length - 1 - i))), rfl⟩
    obtain ⟨D, M, P, B, l3⟩ := hS i (by omega)
    have up : ∀ {a : Nat}, a < 2 ^ 4480 → a < 2 ^ 8900 := fun h => Nat.lt_of_lt_of_le h (Nat.pow_le_pow_right (by decide) (by decide))
    have d1 : D < 2 ^ 4480 := Nat.lt_of_le_of_lt (Nat.le_mul_of_pos_right _ hh.pos) B.d
    have d2 : E < 2 ^ 4480 := Nat.lt_of_le_of_lt (Nat.le_mul_of_pos_left _ P.pos) B.d
    have upM : ∀ {a : Nat}, a < 2 ^ 40000 → a < 2 ^ 100000 := fun h => Nat.lt_of_lt_of_le h (Nat.pow_le_pow_right (by decide) (by decide))
    have b1 := up d1
    have b2 := up d2
    have b3 := up B.d
    have b4 := upM B.m
    have b5 := upM B.n
    have pr := v_poly_times (k := k + 1) (S := S) P hh b1 b2 b3 b4 b5 (by clear b1 b2 b3 b4 b5 d1 d2; omega) (by clear b1 b2 b3 b4 b5 d1 d2; omega)
    clear b1 b2 b3 b4 b5 d1 d2 up upM
    have lm := len_mulP (part g h i) h
    have cu := v_flat_of (k := k + 2) (S := S) (x := co g (g.length - 1 - i))
    have pm := P.mulr hh (Nat.le_refl _)
    have sl := pm.sl B.d (by
      have a1 := Nat.mul_le_mul_right (M * N) lh
      have a2 := B.mn
      have : h.length * (M * N) < 2 ^ 7 * 2 ^ 80001 := by omega
      rw [← Nat.pow_add] at this
      exact Nat.lt_trans this (Nat.pow_lt_pow_right (by decide) (by decide)))
    have pl := v_poly_sum (k := k) (S := S) sl (sm_one (hx (g.length - 1 - i))) (by omega) (Nat.le_trans (trim_len _) (by simp))
    rw [part_succ hi]
    have e : addP (mulP (part g h i) h) (trim [co g (g.length - 1 - i)]) = stepP h (part g h i) (co g (g.length - 1 - i)) := rfl
    rw [e] at pl
    generalize dP (stepP h (part g h i) (co g (g.length - 1 - i))) = a1 at *
    generalize dP (mulP (part g h i) h) = a2 at *
    generalize dP (part g h i) = a3 at *
    generalize dP (trim [co g (g.length - 1 - i)]) = a4 at *
    simp -implicitDefEqProofs [pr, cu, pl])
  rw [part_zero, part_all] at h1
  have rv : revD (dP g) = some (.val (dP g.reverse)) := by simp [revD, dP]
  have sq : seqItems (dP g.reverse) = some ((List.range g.length).map fun i => dQ (co g (g.length - 1 - i))) := by
    show some (g.reverse.map dQ) = _
    congr 1
    apply List.ext_getElem?
    intro i
    by_cases hi : i < g.length
    · rw [List.getElem?_map, List.getElem?_reverse hi, co_lt (by omega), List.getElem?_map, List.getElem?_range hi]; rfl
    · rw [List.getElem?_eq_none (by simp; omega), List.getElem?_eq_none (by simp; omega)]
  rw [u_poly_within]
  simp only [b_poly_within]
  rw [← nil_dP] at h1
  generalize dP (compP g h) = r at *
  generalize dP g.reverse = gr at *
  generalize (List.range g.length).map (fun i => dQ (co g (g.length - 1 - i))) = items at *
  simp -implicitDefEqProofs [rv, sq, h1]
/-! sizes of such -/
variable {dg G0 GM : Nat}
theorem PI.sc (P : PI A M f) {r : Nat} (r0 : 0 < r) : PI (A * r) (M * r) f := ⟨Nat.mul_pos P.pos r0, fun i => (P.iw i).scale r⟩
theorem part_pi (hg : PI G0 GM g) (hh : PI E N h) (lh : h.length ≤ c) : ∀ i, i + 1 ≤ g.length → PI (G0 * E ^ i) (GM * (c * N + E) ^ i) (part g h (i + 1))
  | 0, hi => by
    rw [part_succ (by omega), part_zero]
    refine ⟨Nat.mul_pos hg.pos (Nat.pow_pos hh.pos), fun j => ?_⟩
    have e : co (stepP h [] (co g (g.length - 1 - 0))) j = if j = 0 then co g (g.length - 1 - 0) else 0 := by
      rw [stepP, co_addP, co_one, co_mulP]
      show 0 + _ = _
      rw [Rat.zero_add]
    rw [e, Nat.pow_zero, Nat.pow_zero, Nat.mul_one, Nat.mul_one]
    split
    · exact hg.iw _
    · exact Iw.zero _ _
  | i + 1, hi => by
    have ih := part_pi hg hh lh i (by omega)
    rw [part_succ (by omega)]
    have pm := ih.mulr hh lh
    have e1 : G0 * E ^ i * E = G0 * E ^ (i + 1) := by rw [Nat.pow_succ, Nat.mul_assoc]
    rw [e1] at pm
    refine ⟨Nat.mul_pos hg.pos (Nat.pow_pos hh.pos), fun j => ?_⟩
    rw [stepP, co_addP, co_one]
    have hx : Iw (G0 * E ^ (i + 1)) (GM * E ^ (i + 1)) (if j = 0 then co g (g.length - 1 - (i + 1)) else 0) := by
      split
      · exact (hg.iw _).scale _
      · exact Iw.zero _ _
    refine ((pm.iw j).add hx).mono ?_
    have a1 : E ^ i ≤ (c * N + E) ^ i := Nat.pow_le_pow_left (by omega) i
    have a2 : c * (GM * (c * N + E) ^ i * N) = GM * (c * N + E) ^ i * (c * N) := by ac_rfl
    have a3 : GM * E ^ (i + 1) ≤ GM * (c * N + E) ^ i * E := by
      rw [Nat.pow_succ, ← Nat.mul_assoc]
      exact Nat.mul_le_mul_right _ (Nat.mul_le_mul_left _ a1)
    have a4 : GM * (c * N + E) ^ (i + 1) = GM * (c * N + E) ^ i * (c * N) + GM * (c * N + E) ^ i * E := by
      rw [Nat.pow_succ, ← Nat.mul_assoc, Nat.mul_add]
    rw [a4, a2]
    exact Nat.add_le_add_left a3 _
theorem len_part {i : Nat} (hg : i ≤ g.length) : (part g h i).length ≤ i * h.length + 1 := by
  induction i with
  | zero => rw [part_zero]; simp
  | succ i ih =>
    rw [part_succ (by omega), stepP]
    refine Nat.le_trans (len_addP _ _) ?_
    have h1 := len_mulP (part g h i) h
    have h2 := trim_len [co g (g.length - 1 - i)]
    have h3 := ih (by omega)
    simp only [List.length_singleton] at h2
    rw [Nat.succ_mul]
    omega
/-- what putting together needs -/
structure Pc (g h : List Rat) (dg G0 GM E N c : Nat) : Prop where
  len : g.length = dg + 1
  pg : PI G0 GM g
  ph : PI E N h
  lh : h.length ≤ c
  c1 : c ≤ 100
  lg : g.length ≤ 30
  ll : g.length * c ≤ 250
  d : G0 * E ^ dg * E < 2 ^ 4480
  m : GM * (c * N + E) ^ dg < 2 ^ 40000
  n : N < 2 ^ 40000
  gm : GM < 2 ^ 40000
theorem Pc.pi (P : Pc g h dg G0 GM E N c) : PI (G0 * E ^ dg) (GM * (c * N + E) ^ dg) (compP g h) := by
  have := part_pi P.pg P.ph P.lh dg (by rw [P.len]; exact Nat.le_refl _)
  rw [← P.len, part_all] at this
  exact this
theorem Pc.hs (P : Pc g h dg G0 GM E N c) (i : Nat) (hi : i ≤ g.length) : ∃ D M, PI D M (part g h i) ∧ Ps D M E N ∧ (part g h i).length ≤ 300 := by
  have hp := P.ph.pos
  have h1 := len_part (h := h) hi
  have h2 : i * h.length ≤ g.length * c := Nat.mul_le_mul hi P.lh
  have h3 := P.ll
  have hl := P.len
  cases i with
  | zero =>
    refine ⟨G0, GM, ?_, ⟨Nat.lt_of_le_of_lt ?_ P.d, P.gm, P.n⟩, by omega⟩
    · rw [part_zero]; exact ⟨P.pg.pos, fun i => Iw.zero _ _⟩
    · exact Nat.mul_le_mul_right _ (Nat.le_mul_of_pos_right _ (Nat.pow_pos hp))
  | succ i =>
    refine ⟨_, _, part_pi P.pg P.ph P.lh i hi, ⟨Nat.lt_of_le_of_lt ?_ P.d, Nat.lt_of_le_of_lt ?_ P.m, P.n⟩, by omega⟩
    · exact Nat.mul_le_mul_right _ (Nat.mul_le_mul_left _ (Nat.pow_le_pow_right hp (by omega)))
    · exact Nat.mul_le_mul_left _ (Nat.pow_le_pow_right (by omega) (by omega))
theorem Pc.sm (P : Pc g h dg G0 GM E N c) (i : Nat) : Sm (co g i) := by
  have e1 : G0 ≤ G0 * E ^ dg * E := by
    rw [Nat.mul_assoc]
    exact Nat.le_mul_of_pos_right _ (Nat.mul_pos (Nat.pow_pos P.ph.pos) P.ph.pos)
  exact Iw.sm (P.pg.iw i) P.pg.pos (Nat.lt_of_le_of_lt e1 P.d) (Nat.lt_trans P.gm (Nat.pow_lt_pow_right (by decide) (by decide)))
theorem v_put (P : Pc g h dg G0 GM E N c) : mean tbl C (k + 4) i__law_put [.val (dP g), .val (dP h)] S = some (.val (dP (compP g h)), S) :=
  v__law_put P.ph (Nat.le_trans P.lh P.c1) (Nat.le_trans P.lg (by decide)) P.sm P.hs
theorem v_within (P : Pc g h dg G0 GM E N c) : mean tbl C (k + 5) i_poly_within [.val (dP g), .val (dP h)] S = some (.val (dP (compP g h)), S) :=
  v_poly_within P.ph (Nat.le_trans P.lh P.c1) (Nat.le_trans P.lg (by decide)) P.sm P.hs
end
end K48

set_option Elab.async false
set_option linter.all false
set_option maxRecDepth 100000
set_option maxHeartbeats 4000000
set_option exponentiation.threshold 200000
set_option autoImplicit false
namespace K48
open PySem DE
open L2 (ixN)
section
variable {k m : Nat} {S : Option Src} {x y : Rat} {p q : Int} {f h : List Rat}
theorem rng_down {n : Nat} (hn : n ≤ 1000) : rngD [.int ((n : Int) - 1), .int (-1), .int (-1)] = some ((List.range n).map fun i => .int ((n : Int) - 1 + (i : Nat) * (-1))) := by
  have hm : most = 1000000 := rfl
  show (if _ then _ else _) = _
  rw [if_pos ⟨rfl, by omega, by omega, by omega, by omega, by omega⟩]
  have : ((n : Int) - 1 - -1).toNat = n := by omega
  rw [this]
theorem neg_dQ (x : Rat) : PyData.tuple [.int (-x.num), .int x.den] = dQ (-x) := rfl
theorem _root_.DE.Sz.sy (Z : Sz m f h) : Sy f h := ⟨Z.dh.ne, Z.dh.top, Z.hs, by rw [Z.dh.len]; exact Z.l, Z.r, fun s hs i => by rw [Z.dh.len]; exact Z.o s hs i, fun s hs j => by rw [Z.dh.len]; exact Z.p s hs j⟩
theorem v_poly_divided (Z : Sy f h) (lf : f.length ≤ 100) (lh : h.length ≤ 100) :
    mean tbl C (k + 4) i_poly_divided [.val (dP f), .val (dP h)] S = some (.val (.tuple [dP (divQ f h), dP (divR f h)]), S) := by
  have h0 := Z.ne
  have hl := Z.top
  have hp : 0 < h.length := List.length_pos_iff.mpr h0
  have lq : dnq f h ≤ 100 := by unfold dnq; omega
  have il : ∀ (s : Nat) (hs : s < dnq f h) (Q : List D) (o : Rat) (x6 x7 : SV), o = co (dv f h s).1 (dnq f h - 1 - s + (h.length - 1)) / co h (h.length - 1) →
      ∃ st', forF (.tup [.name 6, .name 7]) (exB (mean tbl C (k + 3)) C FUEL [.setI 2 (.bin .add (.var 4) (.var 6)) (.call 2 [.ix (.var 2) (.bin .add (.var 4) (.var 6)), .call 4 [.tup [.neg (.ix (.var 5) (.int 0)), .ix (.var 5) (.int 1)], .var 7]])]) (enumD (h.map dQ))
        ⟨[.val (dP f), .val (dP h), .own ((dv f h s).1.map dQ), .own Q, .val (.int ((dnq f h - 1 - s : Nat) : Int)), .val (dQ o), x6, x7], S⟩ = some (.nx, st') ∧
        ∃ y6 y7, st' = ⟨[.val (dP f), .val (dP h), .own ((row (dnq f h - 1 - s) (-o) (co h) h.length (dv f h s).1).map dQ), .own Q, .val (.int ((dnq f h - 1 - s : Nat) : Int)), .val (dQ o), y6, y7], S⟩ := by
    intro s hs Q o x6 x7 ho
    rw [enum_dP]
    refine for_rng (P := fun j st => ∃ y6 y7, st = ⟨[.val (dP f), .val (dP h), .own ((row (dnq f h - 1 - s) (-o) (co h) j (dv f h s).1).map dQ), .own Q, .val (.int ((dnq f h - 1 - s : Nat) : Int)), .val (dQ o), y6, y7], S⟩) ⟨x6, x7, rfl⟩ ?_
    rintro j hj st ⟨y6, y7, rfl⟩
    refine ⟨_, _, rfl, ?_, .val (.int j), .val (dQ (co h j)), rfl⟩
    have hk : dnq f h - 1 - s + h.length ≤ (dv f h s).1.length := by rw [len_dv1]; unfold dnq at *; omega
    have lr : (row (dnq f h - 1 - s) (-o) (co h) j (dv f h s).1).length = (dv f h s).1.length := len_row _ _
    have bo : Sm o := by rw [ho]; exact Z.o s (by omega) _
    have bx : Sm (co (row (dnq f h - 1 - s) (-o) (co h) j (dv f h s).1) (dnq f h - 1 - s + j)) := by
      rw [co_row _ _ (by omega)]
      rw [if_neg (by omega), Rat.add_zero]; exact Z.r s (by omega) _
    have bp : Sm (-o * co h j) := by
      rw [Rat.neg_mul, ho]
      have := Z.p s hs j
      exact Sm.neg this
    have ix : ixD (.list ((row (dnq f h - 1 - s) (-o) (co h) j (dv f h s).1).map dQ)) (.int (((dnq f h - 1 - s : Nat) : Int) + (j : Int))) = some (.val (dQ (co (row (dnq f h - 1 - s) (-o) (co h) j (dv f h s).1) (dnq f h - 1 - s + j)))) := by
      rw [← Int.natCast_add]
      exact ix_lst (by rw [List.getElem?_map, co_lt (by rw [lr]; omega)]; rfl)
    have sm1 : Sm (-o) := Sm.neg bo
    have sm2 : Sm (co h j) := Z.hs j
    have mul := v_fraction_times (k := k) (S := S) sm1 sm2
    have add := v_fraction_sum (k := k) (S := S) bx bp
    have ixn : ixN (row (dnq f h - 1 - s) (-o) (co h) j (dv f h s).1).length (((dnq f h - 1 - s : Nat) : Int) + (j : Int)) = some (dnq f h - 1 - s + j) := ixN_int (by omega) (by rw [lr]; omega)
    have st : ((row (dnq f h - 1 - s) (-o) (co h) j (dv f h s).1).map dQ).set (dnq f h - 1 - s + j) (dQ (co (row (dnq f h - 1 - s) (-o) (co h) j (dv f h s).1) (dnq f h - 1 - s + j) + -o * co h j)) = (row (dnq f h - 1 - s) (-o) (co h) (j + 1) (dv f h s).1).map dQ := by
      rw [← List.map_set]; rfl
    generalize ek : dnq f h - 1 - s = kk at *
    simp -implicitDefEqProofs [ix, neg_dQ, dQ_num, dQ_den, mul, add, ixn, st]
  have ol : ∃ st', forF (.name 4) (exB (mean tbl C (k + 3)) C FUEL [.asg 5 (.call 5 [.ix (.var 2) (.bin .sub (.bin .add (.var 4) (.blt .len [.var 1])) (.int 1)), .ix (.var 1) (.neg (.int 1))]), .setI 3 (.var 4) (.var 5),
      .forS (.tup [.name 6, .name 7]) (.enum (.var 1)) [.setI 2 (.bin .add (.var 4) (.var 6)) (.call 2 [.ix (.var 2) (.bin .add (.var 4) (.var 6)), .call 4 [.tup [.neg (.ix (.var 5) (.int 0)), .ix (.var 5) (.int 1)], .var 7]])]])
      ((List.range (dnq f h)).map fun i => .int ((dnq f h : Int) - 1 + (i : Nat) * (-1))) ⟨[.val (dP f), .val (dP h), .own ((dv f h 0).1.map dQ), .own ((dv f h 0).2.map dQ), .un, .un, .un, .un], S⟩ = some (.nx, st') ∧
      ∃ y4 y5 y6 y7, st' = ⟨[.val (dP f), .val (dP h), .own ((dv f h (dnq f h)).1.map dQ), .own ((dv f h (dnq f h)).2.map dQ), y4, y5, y6, y7], S⟩ := by
    refine for_rng (P := fun s st => ∃ y4 y5 y6 y7, st = ⟨[.val (dP f), .val (dP h), .own ((dv f h s).1.map dQ), .own ((dv f h s).2.map dQ), y4, y5, y6, y7], S⟩) ⟨_, _, _, _, rfl⟩ ?_
    rintro s hs st ⟨y4, y5, y6, y7, rfl⟩
    have ek : (dnq f h : Int) - 1 + (s : Nat) * (-1) = ((dnq f h - 1 - s : Nat) : Int) := by omega
    rw [ek]
    generalize ho : co (dv f h s).1 (dnq f h - 1 - s + (h.length - 1)) / co h (h.length - 1) = o
    have hk : dnq f h - 1 - s + h.length ≤ (dv f h s).1.length := by rw [len_dv1]; unfold dnq at *; omega
    obtain ⟨st', h1, y6', y7', est⟩ := il s hs ((dv f h s).2.map dQ |>.set (dnq f h - 1 - s) (dQ o)) o y6 y7 ho.symm
    refine ⟨_, st', rfl, ?_, .val (.int ((dnq f h - 1 - s : Nat) : Int)), .val (dQ o), y6', y7', ?_⟩
    rotate_left
    · rw [est]
      simp only [dv]
      rw [ho, List.map_set]
    clear est
    have ixr : ixD (.list ((dv f h s).1.map dQ)) (.int (((dnq f h - 1 - s : Nat) : Int) + (h.length : Int) - 1)) = some (.val (dQ (co (dv f h s).1 (dnq f h - 1 - s + (h.length - 1))))) := by
      have e : ((dnq f h - 1 - s : Nat) : Int) + (h.length : Int) - 1 = ((dnq f h - 1 - s + (h.length - 1) : Nat) : Int) := by omega
      rw [e]
      exact ix_lst (by rw [List.getElem?_map, co_lt (by omega)]; rfl)
    have ixh : ixD (dP h) (.int (-1)) = some (.val (dQ (co h (h.length - 1)))) := by
      rw [dP_last h0]
      congr 2
      have e1 := co_lt (f := h) (i := h.length - 1) (by omega)
      rw [← List.getLast?_eq_getElem?, List.getLast?_eq_some_getLast h0] at e1
      exact congrArg dQ (Option.some.inj e1)
    have by_ := v_fraction_by (k := k) (S := S) (x := co (dv f h s).1 (dnq f h - 1 - s + (h.length - 1))) (y := co h (h.length - 1)) (Z.r s (by omega) _) (Z.l) hl
    rw [ho] at by_
    have ixn : ixN (dv f h s).2.length (((dnq f h - 1 - s : Nat) : Int)) = some (dnq f h - 1 - s) := ixN_int rfl (by rw [len_dv2]; omega)
    generalize ek : dnq f h - 1 - s = kk at *
    simp -implicitDefEqProofs [ixr, ixh, by_, ixn, h1]
  obtain ⟨st', h1, y4, y5, y6, y7, rfl⟩ := ol
  have nq : max (0 : Int) ((f.length : Int) - h.length + 1) = ((dnq f h : Nat) : Int) := by unfold dnq; omega
  have mx : blD .max [.int 0, .int ((f.length : Int) - h.length + 1)] = some (.val (.int ((dnq f h : Nat) : Int))) := by
    show some (R.val (.int (max (0 : Int) ((f.length : Int) - h.length + 1)))) = _
    rw [nq]
  have p1 := mul_lst (xs := [dQ 0]) (n := dnq f h) (by omega) (by simp; omega)
  rw [rep_one'] at p1
  have e1 : (dv f h 0).1.map dQ = f.map dQ := rfl
  have e2 : (dv f h 0).2.map dQ = List.replicate (dnq f h) (dQ 0) := by simp [dv]
  rw [e1, e2] at h1
  have rg := rng_down (n := dnq f h) (by omega)
  have q1 := v_poly_of (k := k + 2) (S := S) (f := (dv f h (dnq f h)).2) (by rw [len_dv2]; omega)
  have q2 := v_poly_of (k := k + 2) (S := S) (f := (dv f h (dnq f h)).1) (by rw [len_dv1]; omega)
  simp only [Int.mul_neg, Int.mul_one] at h1 rg
  rw [u_poly_divided]
  simp only [b_poly_divided]
  simp -implicitDefEqProofs [mx, c0, p1, rg, h1, q1, q2, divQ, divR]
end
end K48

set_option Elab.async false
set_option linter.all false
set_option maxRecDepth 100000
set_option maxHeartbeats 4000000
set_option exponentiation.threshold 200000
set_option autoImplicit false
namespace K48
open PySem DE
open L2 (ixN)
section
variable {k n m i j : Nat} {S : Option Src} {x y : Rat} {p q : Int} {f g h : List Rat}
/-! ### digits -/
/-- the whole run's numbers are small -/
structure Zr (m : Nat) (f h : List Rat) : Prop where
  dh : Dh m h
  ft : Tr f
  lf : f.length ≤ 100
  lh : h.length ≤ 100
  z : ∀ j, Sz m (qs f h j) h
def digL (f h : List Rat) (n : Nat) : List PyData := (List.range n).map fun j => dP (dg f h j)
theorem digL_succ (n : Nat) : digL f h (n + 1) = digL f h n ++ [dP (dg f h n)] := by simp [digL, List.range_succ]
theorem digL_len (n : Nat) : (digL f h n).length = n := by simp [digL]
theorem Zr.qlen (Z : Zr m f h) (j : Nat) : (qs f h j).length ≤ 100 := by
  have := Z.lf
  rw [qs_len Z.dh Z.ft]; omega
theorem Zr.nd (Z : Zr m f h) : nd f h ≤ 100 := Nat.le_trans (nd_le Z.dh) Z.lf
def doB : List Stm := [.asgT (.tup [.name 0, .name 3]) (.call 20 [.var 0, .var 1]), .app 2 (.var 3)]
theorem do_loop (Z : Zr m f h) : ∀ (r j fuel : Nat) (y3 : SV), j + r = nd f h → r < fuel → ∃ z3, whileF (fT (ev (mean tbl C (k + 4)) C (.cmp .ne (.var 0) (.tup [])))) (exB (mean tbl C (k + 4)) C FUEL doB) fuel ⟨[.val (dP (qs f h j)), .val (dP h), .own (digL f h j), y3], S⟩ = some (.nx, ⟨[.val (dP []), .val (dP h), .own (digL f h (nd f h)), z3], S⟩)
  | 0, j, fuel, y3, hj, hf => by
    obtain ⟨fuel, rfl⟩ : ∃ a, fuel = a + 1 := ⟨fuel - 1, by omega⟩
    have e : qs f h j = [] := Classical.byContradiction fun z => by
      have := (qs_ne Z.dh Z.ft j).mp z; omega
    have ej : j = nd f h := by omega
    refine ⟨y3, ?_⟩
    rw [e, ← ej]
    generalize digL f h j = L at *
    have q1 : copD .ne (dP []) (dP []) = some (.val (.bool false)) := by rw [ne_dP]; simp
    simp only [whileF]
    simp -implicitDefEqProofs [nil_dP]
  | r + 1, j, fuel, y3, hj, hf => by
    obtain ⟨fuel, rfl⟩ : ∃ a, fuel = a + 1 := ⟨fuel - 1, by omega⟩
    obtain ⟨z3, ih⟩ := do_loop Z r (j + 1) fuel (.val (dP (dg f h j))) (by omega) (by omega)
    refine ⟨z3, ?_⟩
    have ne : qs f h j ≠ [] := (qs_ne Z.dh Z.ft j).mpr (by omega)
    have pd := v_poly_divided (k := k) (S := S) (Z.z j).sy (Z.qlen j) Z.lh
    have e1 : divQ (qs f h j) h = qs f h (j + 1) := rfl
    have e2 : divR (qs f h j) h = dg f h j := rfl
    rw [e1, e2] at pd
    have q1 : copD .ne (dP (qs f h j)) (dP []) = some (.val (.bool true)) := by rw [ne_dP]; simp [ne]
    have la : (digL f h j).length < 1000000 := by rw [digL_len]; have := Z.nd; omega
    have ap := digL_succ (f := f) (h := h) j
    rw [ap] at ih
    generalize digL f h (nd f h) = L9 at *
    generalize digL f h j = L at *
    generalize dP (dg f h j) = d1 at *
    generalize hq1 : dP (qs f h (j + 1)) = d2 at *
    generalize hq0 : dP (qs f h j) = d3 at *
    generalize dP h = d4 at *
    have q1' : copD .ne d3 (.tuple []) = some (.val (.bool true)) := q1
    clear q1
    simp only [whileF]
    rw [← ih]
    clear ih
    simp -implicitDefEqProofs [doB, q1', pd, la]
theorem v_digits_of (Z : Zr m f h) : mean tbl C (k + 5) i_digits_of [.val (dP f), .val (dP h)] S = some (.val (.tuple (digL f h (nd f h))), S) := by
  obtain ⟨z3, lp⟩ := do_loop (k := k) (S := S) Z (nd f h) 0 FUEL .un (by omega) (fuel_big (Nat.lt_of_le_of_lt Z.nd (by decide +kernel)))
  have e0 : qs f h 0 = f := rfl
  have e1 : digL f h 0 = [] := rfl
  rw [e0, e1] at lp
  rw [u_digits_of]
  have body : b_digits_of = [.asg 2 (.lst []), .whl (.cmp .ne (.var 0) (.tup [])) doB, .ret (.blt .tuple [.var 2])] := rfl
  rw [body]
  generalize digL f h (nd f h) = L9 at *
  generalize dP f = d1 at *
  generalize dP h = d2 at *
  generalize hdb : doB = db at *
  have td : blD .tuple [.list L9] = some (.val (.tuple L9)) := rfl
  simp -implicitDefEqProofs [lp, td]
/-! the law's own digits -/
def digT (f h : List Rat) : PyData := .tuple (digL f h (nd f h))
end
end K48

set_option Elab.async false
set_option linter.all false
set_option maxRecDepth 100000
set_option maxHeartbeats 4000000
set_option exponentiation.threshold 200000
set_option autoImplicit false
namespace K48
open PySem DE
open L2 (ixN)
section
variable {k n m i j : Nat} {S : Option Src} {x y : Rat} {p q : Int} {f g h : List Rat}
/-! ### flat digits, outer and inner parts, bars -/
def flB (f h : List Rat) : Bool := (List.range (nd f h)).all fun j => decide ((dg f h j).length < 2)
theorem flB_iff (H : Dh m h) (ht : Tr f) : flB f h = true ↔ Fl f h := by
  unfold flB Fl
  rw [List.all_eq_true]
  constructor
  · intro a j
    by_cases hj : j < nd f h
    · have := a j (by simpa using hj)
      have := of_decide_eq_true this
      omega
    · rw [dg_ge H ht (by omega)]; simp
  · intro a j hj
    have := a j
    exact decide_eq_true (by omega)
theorem len_dPn (f : List Rat) : blD .len [dP f] = some (.val (.int (f.length : Nat))) := len_dP
theorem v_is_flat : mean tbl C (k + 1) i_is_flat [.val (dP g)] S = some (.val (.bool (decide (g.length < 2))), S) := by
  have l := len_dPn g
  rw [u_is_flat]
  simp only [b_is_flat]
  generalize dP g = d at *
  have : (decide ((g.length : Int) < 2)) = decide (g.length < 2) := by
    by_cases h : g.length < 2
    · rw [decide_eq_true h, decide_eq_true (by omega)]
    · rw [decide_eq_false h, decide_eq_false (by omega)]
  rw [← this]
  simp -implicitDefEqProofs [l]
theorem v_are_fraction_digits (Z : Zr m f h) : mean tbl C (k + 2) i_are_fraction_digits [.val (digT f h)] S = some (.val (.bool (flB f h)), S) := by
  have lc : lcLoop [1] (.name 1) (fT (ev (mean tbl C (k + 1)) C .yes)) (fV (ev (mean tbl C (k + 1)) C (.call 27 [.var 1]))) (digL f h (nd f h)) [] ⟨[.val (digT f h), .un], S⟩ = some (((List.range (nd f h)).map fun j => decide ((dg f h j).length < 2)).map PyData.bool, ⟨[.val (digT f h), .un], S⟩) := by
    rw [List.map_map]
    refine lc_mapG0 (fun j => dP (dg f h j)) _ yes_true _ (fun j _ => ⟨[.val (digT f h), .val (dP (dg f h j))], [.val (digT f h), .val (dP (dg f h j))], rfl, ?_, rfl⟩) (by show _ ≤ 1000000; have := Z.nd; simp; omega)
    have fl := v_is_flat (k := k) (S := S) (g := dg f h j)
    show _ = some (PyData.bool (decide ((dg f h j).length < 2)), _)
    generalize dP (dg f h j) = d at *
    generalize digT f h = T at *
    simp -implicitDefEqProofs [fl]
  have al := all_bools (bs := (List.range (nd f h)).map fun j => decide ((dg f h j).length < 2))
  have e : ((List.range (nd f h)).map fun j => decide ((dg f h j).length < 2)).all id = flB f h := by
    unfold flB; rw [List.all_map]; rfl
  rw [e] at al
  have sq : seqItems (digT f h) = some (digL f h (nd f h)) := rfl
  rw [u_are_fraction_digits]
  simp only [b_are_fraction_digits]
  generalize ((List.range (nd f h)).map fun j => decide ((dg f h j).length < 2)).map PyData.bool = bs at *
  generalize digL f h (nd f h) = L at *
  generalize digT f h = T at *
  simp -implicitDefEqProofs [sq, lc, al]
/-- what is outside, or None -/
def ouD (f h : List Rat) : PyData := if flB f h = true then dP (ou f h) else .none
theorem v_outer_part (Z : Zr m f h) : mean tbl C (k + 6) i_outer_part [.val (dP f), .val (dP h)] S = some (.val (ouD f h), S) := by
  have dg_ := v_digits_of (k := k) (S := S) Z
  have ed : PyData.tuple (digL f h (nd f h)) = digT f h := rfl
  rw [ed] at dg_
  have fd := v_are_fraction_digits (k := k + 3) (S := S) Z
  have lc : lcLoop [3] (.name 3) (fT (ev (mean tbl C (k + 5)) C .yes)) (fV (ev (mean tbl C (k + 5)) C (.call 13 [.var 3, .int 0]))) (digL f h (nd f h)) [] ⟨[.val (dP f), .val (dP h), .val (digT f h), .un], S⟩ = some (((List.range (nd f h)).map fun j => co (dg f h j) 0).map dQ, ⟨[.val (dP f), .val (dP h), .val (digT f h), .un], S⟩) := by
    rw [List.map_map]
    refine lc_mapG0 (fun j => dP (dg f h j)) _ yes_true _ (fun j _ => ⟨[.val (dP f), .val (dP h), .val (digT f h), .val (dP (dg f h j))], [.val (dP f), .val (dP h), .val (digT f h), .val (dP (dg f h j))], rfl, ?_, rfl⟩) (by show _ ≤ 1000000; have := Z.nd; simp; omega)
    have na := v_number_at (k := k + 4) (S := S) (f := dg f h j) (i := 0)
    have na' : mean tbl C (k + 4 + 1) i_number_at [.val (dP (dg f h j)), .val (.int 0)] S = some (.val (dQ (co (dg f h j) 0)), S) := na
    show _ = some (dQ (co (dg f h j) 0), _)
    generalize dQ (co (dg f h j) 0) = x0 at *
    generalize dP (dg f h j) = d at *
    generalize digT f h = T at *
    generalize dP f = d1 at *
    generalize dP h = d2 at *
    simp -implicitDefEqProofs [na']
  have po := v_poly_of (k := k + 4) (S := S) (f := (List.range (nd f h)).map fun j => co (dg f h j) 0) (by have := Z.nd; simp; omega)
  have eo : trim ((List.range (nd f h)).map fun j => co (dg f h j) 0) = ou f h := rfl
  rw [eo] at po
  have sq : seqItems (digT f h) = some (digL f h (nd f h)) := rfl
  rw [u_outer_part]
  simp only [b_outer_part, ouD]
  generalize ((List.range (nd f h)).map fun j => co (dg f h j) 0).map dQ = L2 at *
  generalize digL f h (nd f h) = L at *
  generalize digT f h = T at *
  generalize dP (ou f h) = d3 at *
  generalize dP f = d1 at *
  generalize dP h = d2 at *
  cases hb : flB f h
  · rw [hb] at fd
    simp -implicitDefEqProofs [dg_, fd]
  · rw [hb] at fd
    simp -implicitDefEqProofs [dg_, fd, sq, lc, po]
/-- the inner part of degree m, or None -/
def inD (f : List Rat) (m q : Nat) : PyData := if flB f (cand f m q) = true then dP (cand f m q) else .none
variable {bh ab q' H A D M : Nat}
theorem mod_dvd (m0 : 0 < m) (e : m * q' = n) : bopD .mod (.int (n : Int)) (.int (m : Int)) = some (.val (.int 0)) := by
  rw [fmod_nat m0, ← e, Nat.mul_mod_right]; rfl
theorem isn_dP (g : List Rat) : copD .isn (dP g) .none = some (.val (.bool true)) := rfl
theorem isn_none : copD .isn .none .none = some (.val (.bool false)) := rfl
theorem v_inner_part (F : PF bh ab n f) (e : m * q' = n) (m0 : 0 < m) (q0 : 0 < q') (Z : Fz f q' m H A D M) (R : Zr m f (cand f m q')) : mean tbl C (k + 8) i_inner_part [.val (dP f), .val (.int m)] S = some (.val (inD f m q'), S) := by
  have dg' := v_degree_of (k := k + 6) (S := S) (f := f) F.ne
  have e1 : (f.length : Int) - 1 = (n : Int) := by rw [F.len]; omega
  rw [e1] at dg'
  have md := mod_dvd m0 e
  have ca := v_candidate_of (k := k) (S := S) F e m0 q0 Z
  have op := v_outer_part (k := k + 1) (S := S) R
  rw [u_inner_part]
  simp only [b_inner_part, inD]
  unfold ouD at op
  have n1 := isn_dP (ou f (cand f m q'))
  generalize dP (ou f (cand f m q')) = d3 at *
  generalize dP (cand f m q') = d2 at *
  generalize dP f = d1 at *
  cases hb : flB f (cand f m q')
  · rw [hb] at op
    simp -implicitDefEqProofs at op
    simp -implicitDefEqProofs [dg', md, ca, op, isn_none]
  · rw [hb] at op
    simp -implicitDefEqProofs at op
    simp -implicitDefEqProofs [dg', md, ca, op, n1]
/-! bars -/
end
end K48

set_option Elab.async false
set_option linter.all false
set_option maxRecDepth 100000
set_option maxHeartbeats 4000000
set_option exponentiation.threshold 200000
set_option autoImplicit false
namespace K48
open PySem DE
open L2 (ixN)
section
variable {k n m q i j d s Q a b e v : Nat} {S : Option Src} {x y c : Rat} {f g h r w : List Rat} {D M E N H A : Nat}
/-! ### what is shown -/
theorem shown {n h : Nat} {d : PyData} (r : Rp n h d) (c : Nice h d) (hn : n ≤ 1000000) (hh : h ≤ 60) : blD .repr [d] = some (.val (.str d.shown)) := repr_eq r hn hh (.inl c.noDict)
theorem str_ne (z : Str) : copD .ne (.str z) (.str z) = some (.val (.bool false)) := by
  show some (R.val (.bool (!decide (z = z)))) = _
  simp
theorem rp_dP25 {f : List Rat} (h : ∀ x ∈ f, Hb 1900 x) (hl : f.length ≤ 28) : Rp 40000 2 (dP f) := rp_tuple (n := 1407) (fun d hd => by
  obtain ⟨x, hx, rfl⟩ := List.mem_map.mp hd
  exact rp_dQ (h x hx)) (by rw [List.length_map]; omega)
theorem rep_dP (h : ∀ x ∈ f, Hb 1900 x) (hl : f.length ≤ 28) : blD .repr [dP f] = some (.val (.str (dP f).shown)) := shown (rp_dP25 h hl) (nice_dP f) (by decide) (by decide)
/-! ### sizes of the digits -/
/-! ### polynomials with a candidate -/
/-- what is known of F of degree m q with the candidate G -/
structure Pk (m q : Nat) (F G : List Rat) : Prop where
  m0 : 0 < m
  q0 : 0 < q
  pf : PF 80 80 (m * q) F
  ca : cand F m q = G
  zr : Zr m F G
theorem Pk.nm {F G : List Rat} (P : Pk m q F G) : Nm m G := by rw [← P.ca]; exact cand_nm P.m0
theorem Pk.fz {F G : List Rat} (P : Pk m q F G) : ∃ H A D M, Fz F q m H A D M := by
  obtain ⟨_, h⟩ := fz_of P.pf (Nat.le_refl _) (Nat.le_refl _) rfl P.m0
  exact h
variable {F G : List Rat}
theorem Pk.cand (P : Pk m q F G) : mean tbl C (k + 7) i_candidate_of [.val (dP F), .val (.int m)] S = some (.val (dP G), S) := by
  obtain ⟨H, A, D, M, Z⟩ := P.fz
  have h := v_candidate_of (k := k) (S := S) P.pf rfl P.m0 P.q0 Z
  rwa [P.ca] at h
theorem Pk.inner (P : Pk m q F G) : mean tbl C (k + 8) i_inner_part [.val (dP F), .val (.int m)] S = some (.val (if flB F G = true then dP G else .none), S) := by
  obtain ⟨H, A, D, M, Z⟩ := P.fz
  have h := v_inner_part (k := k) (S := S) P.pf rfl P.m0 P.q0 Z (by rw [P.ca]; exact P.zr)
  unfold inD at h
  rwa [P.ca] at h
theorem rep_none : blD .repr [.none] = some (.val (.str PyData.none.shown)) := shown rp_none nice_none (by decide) (by decide)
end
end K48

set_option Elab.async false
set_option linter.all false
set_option maxRecDepth 100000
set_option maxHeartbeats 4000000
set_option exponentiation.threshold 200000
set_option autoImplicit false
namespace K48
open PySem DE
section
variable {k n m q i j d s t : Nat} {S : Option Src} {x y c : Rat} {f g h w : List Rat} {D M E N : Nat}
theorem lt_pow2 {a b c : Nat} (h : a ≤ 2 ^ b) (hb : b < c) : a < 2 ^ c := Nat.lt_of_le_of_lt h (Nat.pow_lt_pow_right (by decide) hb)
theorem nat_iw (i : Nat) : Iw 1 i ((i : Nat) : Rat) := ⟨(i : Int), by simp [Rat.intCast_natCast], by simp⟩
theorem nat_sm (h : i ≤ 1000) : Sm ((i : Nat) : Rat) := Iw.sm (nat_iw i) (by decide) (by decide) (Nat.lt_of_le_of_lt h (by decide))
theorem dQ_nat (i : Nat) : PyData.tuple [.int (i : Int), .int 1] = dQ ((i : Nat) : Rat) := by rw [dQ_int, Rat.intCast_natCast]
theorem PI.add (P : PI D M f) (R : PI D N g) : PI D (M + N) (addP f g) := ⟨P.pos, fun i => by rw [co_addP]; exact (P.iw i).add (R.iw i)⟩
theorem rev_items (f : List Rat) : f.reverse.map dQ = (List.range f.length).map fun i => dQ (co f (f.length - 1 - i)) := by
  apply List.ext_getElem?
  intro i
  by_cases hi : i < f.length
  · rw [List.getElem?_map, List.getElem?_reverse hi, co_lt (by omega), List.getElem?_map, List.getElem?_range hi]; rfl
  · rw [List.getElem?_eq_none (by simp; omega), List.getElem?_eq_none (by simp; omega)]
end
end K48

set_option Elab.async false
set_option linter.all false
set_option maxRecDepth 100000
set_option maxHeartbeats 4000000
set_option exponentiation.threshold 200000
set_option autoImplicit false
namespace K48
open PySem DE
open L2 (ixN)
section
variable {k n m q i j d t a b e v w : Nat} {S : Option Src} {x y c s : Rat} {f g h u p : List Rat} {D M E N : Nat}
theorem pq_pi (X : Pq a b f) : ∃ D M, PI D M f ∧ D ≤ 2 ^ a ∧ M ≤ 2 ^ b := by
  obtain ⟨D, M, h, I, hD, hM⟩ := X
  exact ⟨D, M, ⟨h, I⟩, hD, hM⟩
theorem pi_pq (P : PI D M f) (hD : D ≤ 2 ^ a) (hM : M ≤ 2 ^ b) : Pq a b f := ⟨D, M, P.pos, P.iw, hD, hM⟩
theorem pq_sl (X : Pq a b f) (h1 : a < 4480) (h2 : b < 100000) : Sl f := X.sm h1 h2
theorem fq_sm (X : Fq a b x) (h1 : a < 4480) (h2 : b < 100000) : Sm x := X.sm h1 h2
theorem fq_fr (X : Fr (2 ^ b) (2 ^ a) x) : Fq a b x := Fq.of X.1 X.2
theorem fr43 (X : Fr 4 3 x) : Fq 2 2 x := Fq.of (Nat.le_trans X.1 (by decide)) (Nat.le_trans X.2 (by decide))
theorem lt2 {X : Nat} (h : X ≤ 2 ^ a) (hb : a < b) : X < 2 ^ b := Nat.lt_of_le_of_lt h (Nat.pow_lt_pow_right (by decide) hb)
/-! ### within -/
theorem v_within_q (X : Pq a b g) (Y : Pq e v h) (lg : g.length ≤ d + 1) (lh : h.length ≤ 2 ^ t) (he : e ≤ v + t) (d28 : d ≤ 24) (h100 : h.length ≤ 100) (ll : (d + 1) * h.length ≤ 250) (hD : a + e * (d + 1) ≤ 4400) (hM : b + (v + t + 1) * d ≤ 39000) (hv : v ≤ 39000) : mean tbl C (k + 5) i_poly_within [.val (dP g), .val (dP h)] S = some (.val (dP (compP g h)), S) := by
  obtain ⟨D, M, P, hD', hM'⟩ := pq_pi X
  obtain ⟨E, N, R, hE, hN⟩ := pq_pi Y
  have hb : b ≤ 39000 := by omega
  have e40 : e ≤ 4400 := by
    have : e * 1 ≤ e * (d + 1) := Nat.mul_le_mul_left e (by omega)
    omega
  by_cases z : g.length = 0
  · have e0 := List.eq_nil_of_length_eq_zero z
    subst e0
    refine v_poly_within R h100 (by decide) (fun i => sm0) fun i hi => ?_
    have : i = 0 := by simpa using hi
    subst this
    exact ⟨1, 0, ⟨by decide, fun i => Iw.zero _ _⟩, ⟨by rw [Nat.one_mul]; exact lt2 hE (by omega), by decide +kernel, lt2 hN (by omega)⟩, by rw [part_zero]; decide⟩
  · have gl : g.length * h.length ≤ 250 := Nat.le_trans (Nat.mul_le_mul_right _ lg) ll
    have hd : g.length - 1 ≤ d := by omega
    refine v_within (dg := g.length - 1) ⟨by omega, P, R, Nat.le_refl _, h100, by omega, gl, ?_, ?_, lt2 hN (by omega), lt2 hM' (by omega)⟩
    · rw [Nat.mul_assoc, ← Nat.pow_succ]
      have a1 : E ^ (g.length - 1 + 1) ≤ 2 ^ (e * (d + 1)) := by
        rw [Nat.pow_mul]
        exact Nat.le_trans (Nat.pow_le_pow_left hE _) (Nat.pow_le_pow_right (Nat.two_pow_pos e) (by omega : g.length - 1 + 1 ≤ d + 1))
      exact lt2 (a := a + e * (d + 1)) (two_mul_le hD' a1) (by omega)
    · have a0 : h.length * N + E ≤ 2 ^ (v + t + 1) := two_add_le (a := t + v) (b := e) (two_mul_le lh hN) hE (by omega) (by omega)
      have a1 : (h.length * N + E) ^ (g.length - 1) ≤ 2 ^ ((v + t + 1) * d) := by
        rw [Nat.pow_mul]
        exact Nat.le_trans (Nat.pow_le_pow_left a0 _) (Nat.pow_le_pow_right (Nat.two_pow_pos _) hd)
      exact lt2 (a := b + (v + t + 1) * d) (two_mul_le hM' a1) (by omega)
/-! ### normal ones -/
theorem sub_q (X : Pq a b f) (hab : a ≤ 2000) (hb : b ≤ 10000) : Sl (subP f (trim [co f 0])) := by
  obtain ⟨D, M, h, I, hD, hM⟩ := X
  refine mem_ofco fun i => ?_
  have : Iw D M (co (subP f (trim [co f 0])) i) := by
    rw [co_subP, co_oneT]
    split
    · rename_i z; rw [z]
      have : co f 0 - co f 0 = 0 := by grind
      rw [this]; exact Iw.zero _ _
    · have : co f i - 0 = co f i := by grind
      rw [this]; exact I i
  exact Iw.sm this h (lt2 hD (by omega)) (lt2 hM (by omega))
theorem len_sub_q (lf : f.length ≤ 800) : (subP f (trim [co f 0])).length ≤ 900 := by
  unfold subP
  have h1 := len_addP f (mulC (-1) (trim [co f 0]))
  have h2 : (mulC (-1) (trim [co f 0])).length ≤ 1 := by
    unfold mulC
    refine Nat.le_trans (trim_len _) ?_
    rw [List.length_map]
    exact Nat.le_trans (trim_len _) (by simp)
  omega
theorem v_normal_q (P : PL n f) (X : Pq a b f) (n8 : n ≤ 700) (ha : a ≤ 2000) (hb : b ≤ 4000) : mean tbl C (k + 6) i_normal_of [.val (dP f)] S = some (.val (.tuple [dQ (co f n), dQ (co f 0), dP (nrm f)]), S) := by
  have hl : 0 < f.length := by rw [P.len]; omega
  have i0 := dP_zero hl
  have i1 := dP_end hl
  rw [P.last] at i1
  have fo := v_flat_of (k := k + 3) (S := S) (x := co f 0)
  have sf := pq_sl X (by omega) (by omega)
  have s0 := fq_sm (X.co 0) (by omega) (by omega)
  have ls := v_poly_less (k := k) (S := S) (f := f) (g := trim [co f 0]) sf (mem_trim fun z hz => by rw [List.mem_singleton.mp hz]; exact s0) (by rw [P.len]; omega) (Nat.le_trans (trim_len _) (by simp))
  have by_ := v_fraction_by (k := k + 2) (S := S) (x := 1) (y := co f n) (Hb.sm hb_one (by decide)) ((X.co n).hb (k := 4480) (by omega) (by omega)) P.nz
  have of := v_poly_often (k := k + 1) (S := S) (c := 1 / co f n) (f := subP f (trim [co f 0])) (fq_sm ((X.co n).inv P.nz) (by omega) (by omega)) (sub_q X (by omega) (by omega)) (len_sub_q (by rw [P.len]; omega))
  have e : mulC (1 / co f n) (subP f (trim [co f 0])) = nrm f := by rw [nrm, P.last]
  rw [e] at of
  rw [u_normal_of]
  simp only [b_normal_of]
  simp -implicitDefEqProofs [i0, i1, fo, ls, c1, by_, of]
end
end K48

set_option Elab.async false
set_option linter.all false
set_option maxRecDepth 100000
set_option maxHeartbeats 4000000
set_option exponentiation.threshold 200000
set_option autoImplicit false
namespace K48
open PySem DE
open L2 (ixN)
section
variable {k n m q i j d a b e v w : Nat} {S : Option Src} {x y c s t : Rat} {f g h u p : List Rat} {N : Nat} {z : Int}
/-! ### powers of integers -/
theorem v_number_power (hz : z.natAbs < 2 ^ 64) (hn : n ≤ 1000) : mean tbl C (k + 1) i_number_power [.val (.int z), .val (.int n)] S = some (.val (.int (z ^ n)), S) := by
  obtain ⟨st', h1, y3, rfl⟩ := for_rng (tg := .name 3) (ψ := exB (mean tbl C k) C FUEL [.asg 2 (.bin .mul (.var 2) (.var 0))]) (e := fun i => .int (i : Nat)) (n := n) (st := ⟨[.val (.int z), .val (.int n), .val (.int (z ^ 0)), .un], S⟩) (P := fun i st => ∃ y3, st = ⟨[.val (.int z), .val (.int n), .val (.int (z ^ i)), y3], S⟩) ⟨_, rfl⟩ (by
    rintro i hi st ⟨y3, rfl⟩
    refine ⟨_, ⟨[.val (.int z), .val (.int n), .val (.int (z ^ (i + 1))), .val (.int i)], S⟩, rfl, ?_, .val (.int i), rfl⟩
    have mu : bopD .mul (.int (z ^ i)) (.int z) = some (.val (.int (z ^ (i + 1)))) := by
      rw [Int.pow_succ]; exact mul_int (.inr (.inr hz))
    generalize z ^ (i + 1) = z1 at *
    generalize z ^ i = z2 at *
    simp -implicitDefEqProofs [mu])
  have rg := rng_one' (n := n) (by omega)
  rw [Int.pow_zero] at h1
  rw [u_number_power]
  simp only [b_number_power]
  generalize z ^ n = r at *
  generalize (List.range n).map (fun i => PyData.int (i : Nat)) = items at *
  simp -implicitDefEqProofs [rg, h1]
theorem v__law_number_power (hz : z.natAbs < 2 ^ 64) (hn : n ≤ 1000) : mean tbl C (k + 1) i__law_number_power [.val (.int z), .val (.int n)] S = some (.val (.int (z ^ n)), S) := by
  obtain ⟨st', h1, y3, rfl⟩ := for_rng (tg := .name 3) (ψ := exB (mean tbl C k) C FUEL [.asg 2 (.bin .mul (.var 2) (.var 0))]) (e := fun i => .int (i : Nat)) (n := n) (st := ⟨[.val (.int z), .val (.int n), .val (.int (z ^ 0)), .un], S⟩) (P := fun i st => ∃ y3, st = ⟨[.val (.int z), .val (.int n), .val (.int (z ^ i)), y3], S⟩) ⟨_, rfl⟩ (by
    rintro i hi st ⟨y3, rfl⟩
    refine ⟨_, ⟨[.val (.int z), .val (.int n), .val (.int (z ^ (i + 1))), .val (.int i)], S⟩, rfl, ?_, .val (.int i), rfl⟩
    have mu : bopD .mul (.int (z ^ i)) (.int z) = some (.val (.int (z ^ (i + 1)))) := by
      rw [Int.pow_succ]; exact mul_int (.inr (.inr hz))
    generalize z ^ (i + 1) = z1 at *
    generalize z ^ i = z2 at *
    simp -implicitDefEqProofs [mu])
  have rg := rng_one' (n := n) (by omega)
  rw [Int.pow_zero] at h1
  rw [u__law_number_power]
  simp only [b__law_number_power]
  generalize z ^ n = r at *
  generalize (List.range n).map (fun i => PyData.int (i : Nat)) = items at *
  simp -implicitDefEqProofs [rg, h1]
theorem np (hm : m < 2 ^ 64) (hn : n ≤ 1000) : mean tbl C (k + 1) i_number_power [.val (.int (m : Nat)), .val (.int n)] S = some (.val (.int (m ^ n : Nat)), S) := by
  rw [Int.natCast_pow]; exact v_number_power (by rw [Int.natAbs_natCast]; exact hm) hn
theorem lnp (hm : m < 2 ^ 64) (hn : n ≤ 1000) : mean tbl C (k + 1) i__law_number_power [.val (.int (m : Nat)), .val (.int n)] S = some (.val (.int (m ^ n : Nat)), S) := by
  rw [Int.natCast_pow]; exact v__law_number_power (by rw [Int.natAbs_natCast]; exact hm) hn
/-! ### whole roots -/
/-- a number that is not great, and how often -/
structure Nk (N n : Nat) : Prop where
  n0 : 0 < n
  n60 : n ≤ 60
  le : N ≤ 1001 ^ n
theorem pow_lt_iff (n0 : 0 < n) : a ^ n < b ^ n ↔ a < b := by
  constructor
  · intro h
    exact Classical.byContradiction fun z => by
      have := Nat.pow_le_pow_left (by omega : b ≤ a) n
      omega
  · intro h
    exact Nat.pow_lt_pow_left h (by omega)
theorem Nk.small (K : Nk N n) (h : a ^ n ≤ N) : a ≤ 1001 := Classical.byContradiction fun z => by
  have h1 := (pow_lt_iff K.n0).mpr (by omega : 1001 < a)
  have := K.le
  omega
def wrA : List Stm := [.asg 3 (.bin .mul (.int 2) (.var 3))]
def wrB : List Stm := [.asg 4 (.bin .fdiv (.bin .add (.var 2) (.var 3)) (.int 2)),
    .ifS (.cmp .le (.call 7 [.var 4, .var 1]) (.var 0)) [.asg 2 (.var 4)] [.asg 3 (.var 4)]]
theorem two_i (i : Nat) (h : i ≤ 11) : (2 : Nat) ^ i ≤ 2048 := Nat.pow_le_pow_right (by decide) h
theorem wr_up (K : Nk N n) : ∀ (r i fuel : Nat), i + r = 10 → r < fuel → ∃ j, j ≤ 11 ∧ N < (2 ^ j) ^ n ∧ whileF (fT (ev (mean tbl C (k + 1)) C (.cmp .le (.call 7 [.var 3, .var 1]) (.var 0)))) (exB (mean tbl C (k + 1)) C FUEL wrA) fuel ⟨[.val (.int (N : Nat)), .val (.int n), .val (.int 0), .val (.int (2 ^ i : Nat)), .un], S⟩ = some (.nx, ⟨[.val (.int (N : Nat)), .val (.int n), .val (.int 0), .val (.int (2 ^ j : Nat)), .un], S⟩) := by
  intro r
  induction r with
  | zero =>
    intro i fuel hi hf
    obtain ⟨fuel, rfl⟩ : ∃ a, fuel = a + 1 := ⟨fuel - 1, by omega⟩
    have i10 : i = 10 := by omega
    subst i10
    have h1 : N < (2 ^ 10) ^ n := Nat.lt_of_le_of_lt K.le ((pow_lt_iff K.n0).mpr (by decide))
    refine ⟨10, by decide, h1, ?_⟩
    have n60 := K.n60
    have v := np (k := k) (S := S) (m := 2 ^ 10) (n := n) (by decide) (by omega)
    have c1 : ¬ (((((2 ^ 10 : Nat) ^ n : Nat)) : Int) ≤ (N : Int)) := by omega
    simp only [whileF]
    generalize (((2 ^ 10 : Nat) ^ n : Nat) : Int) = z1 at *
    generalize ((2 ^ 10 : Nat) : Int) = z2 at *
    simp -implicitDefEqProofs [v, c1]
  | succ r ih =>
    intro i fuel hi hf
    obtain ⟨fuel, rfl⟩ : ∃ a, fuel = a + 1 := ⟨fuel - 1, by omega⟩
    have n60 := K.n60
    have t := two_i i (by omega)
    have v := np (k := k) (S := S) (m := 2 ^ i) (n := n) (by omega) (by omega)
    by_cases hle : (2 ^ i) ^ n ≤ N
    · obtain ⟨j, hj, hN, hw⟩ := ih (i + 1) fuel (by omega) (by omega)
      refine ⟨j, hj, hN, ?_⟩
      have c1 : ((((2 ^ i : Nat) ^ n : Nat)) : Int) ≤ (N : Int) := by omega
      have e2 : (2 : Int) * ((2 ^ i : Nat) : Int) = ((2 ^ (i + 1) : Nat) : Int) := by rw [Nat.pow_succ]; omega
      have mu : bopD .mul (.int 2) (.int ((2 ^ i : Nat) : Int)) = some (.val (.int ((2 ^ (i + 1) : Nat) : Int))) := by
        rw [← e2]; exact mul_int (.inr (.inl (by decide)))
      clear e2
      simp only [whileF]
      simp only [wrA] at hw ⊢
      generalize (((2 ^ i : Nat) ^ n : Nat) : Int) = z1 at *
      generalize ((2 ^ i : Nat) : Int) = z2 at *
      generalize ((2 ^ (i + 1) : Nat) : Int) = z3 at *
      generalize ((2 ^ j : Nat) : Int) = z4 at *
      simp -implicitDefEqProofs [v, c1, mu, hw]
    · refine ⟨i, by omega, by omega, ?_⟩
      have c1 : ¬ (((((2 ^ i : Nat) ^ n : Nat)) : Int) ≤ (N : Int)) := by omega
      simp only [whileF]
      generalize (((2 ^ i : Nat) ^ n : Nat) : Int) = z1 at *
      generalize ((2 ^ i : Nat) : Int) = z2 at *
      simp -implicitDefEqProofs [v, c1]
theorem wr_mid (K : Nk N n) : ∀ (r lo hi fuel : Nat) (y4 : SV), hi - lo ≤ r → lo < hi → hi ≤ 2048 → lo ^ n ≤ N → N < hi ^ n → r < fuel → ∃ (c : Nat) (z3 z4 : SV), c ≤ 1001 ∧ c ^ n ≤ N ∧ N < (c + 1) ^ n ∧ whileF (fT (ev (mean tbl C (k + 1)) C (.cmp .gt (.bin .sub (.var 3) (.var 2)) (.int 1)))) (exB (mean tbl C (k + 1)) C FUEL wrB) fuel ⟨[.val (.int (N : Nat)), .val (.int n), .val (.int (lo : Nat)), .val (.int (hi : Nat)), y4], S⟩ = some (.nx, ⟨[.val (.int (N : Nat)), .val (.int n), .val (.int (c : Nat)), z3, z4], S⟩) := by
  intro r
  induction r with
  | zero => intro lo hi fuel y4 h1 h2; omega
  | succ r ih =>
    intro lo hi fuel y4 h1 h2 h3 h4 h5 hf
    obtain ⟨fuel, rfl⟩ : ∃ a, fuel = a + 1 := ⟨fuel - 1, by omega⟩
    have n60 := K.n60
    by_cases hs : hi - lo ≤ 1
    · have e : hi = lo + 1 := by omega
      subst e
      refine ⟨lo, .val (.int (lo + 1 : Nat)), y4, K.small h4, h4, h5, ?_⟩
      have c1 : ¬ ((1 : Int) < ((lo + 1 : Nat) : Int) - (lo : Int)) := by omega
      simp only [whileF]
      generalize ((lo + 1 : Nat) : Int) = z1 at *
      simp -implicitDefEqProofs [c1]
    · have md : (lo + hi) / 2 < hi ∧ lo < (lo + hi) / 2 := by omega
      have c1 : (1 : Int) < (hi : Int) - (lo : Int) := by omega
      have e1 : (lo : Int) + (hi : Int) = ((lo + hi : Nat) : Int) := by omega
      have fd : bopD .fdiv (.int ((lo + hi : Nat) : Int)) (.int 2) = some (.val (.int (((lo + hi) / 2 : Nat) : Int))) := fdiv_nat (a := lo + hi) (b := 2) (by decide) (by decide)
      have v := np (k := k) (S := S) (m := (lo + hi) / 2) (n := n) (by omega) (by omega)
      by_cases hle : ((lo + hi) / 2) ^ n ≤ N
      · obtain ⟨c, z3, z4, g1, g2, g3, g4⟩ := ih ((lo + hi) / 2) hi fuel (.val (.int (((lo + hi) / 2 : Nat) : Int))) (by omega) md.1 h3 hle h5 (by omega)
        refine ⟨c, z3, z4, g1, g2, g3, ?_⟩
        have c2 : (((((lo + hi) / 2 : Nat) ^ n : Nat)) : Int) ≤ (N : Int) := by omega
        simp only [whileF]
        simp only [wrB] at g4 ⊢
        generalize (((lo + hi) / 2 : Nat) ^ n : Nat) = w1 at *
        generalize (((lo + hi) / 2 : Nat) : Int) = z1 at *
        generalize ((lo + hi : Nat) : Int) = z2 at *
        simp -implicitDefEqProofs [c1, e1, fd, v, c2, g4]
      · obtain ⟨c, z3, z4, g1, g2, g3, g4⟩ := ih lo ((lo + hi) / 2) fuel (.val (.int (((lo + hi) / 2 : Nat) : Int))) (by omega) md.2 (by omega) h4 (by omega) (by omega)
        refine ⟨c, z3, z4, g1, g2, g3, ?_⟩
        have c2 : ¬ ((((((lo + hi) / 2 : Nat) ^ n : Nat)) : Int) ≤ (N : Int)) := by omega
        simp only [whileF]
        simp only [wrB] at g4 ⊢
        generalize (((lo + hi) / 2 : Nat) ^ n : Nat) = w1 at *
        generalize (((lo + hi) / 2 : Nat) : Int) = z1 at *
        generalize ((lo + hi : Nat) : Int) = z2 at *
        simp -implicitDefEqProofs [c1, e1, fd, v, c2, g4]
/-- the whole root: by what it is -/
def Br (N n c : Nat) : Prop := c ≤ 1001 ∧ c ^ n ≤ N ∧ N < (c + 1) ^ n
theorem Br.uniq (n0 : 0 < n) (A : Br N n a) (B : Br N n b) : a = b := by
  have h1 := (pow_lt_iff n0).mp (Nat.lt_of_le_of_lt A.2.1 B.2.2)
  have h2 := (pow_lt_iff n0).mp (Nat.lt_of_le_of_lt B.2.1 A.2.2)
  omega
theorem Br.of (n0 : 0 < n) (h : a ≤ 1001) : Br (a ^ n) n a := ⟨h, Nat.le_refl _, (pow_lt_iff n0).mpr (by omega)⟩
theorem v_whole_root (K : Nk N n) : ∃ c, Br N n c ∧ ∀ {k : Nat} {S : Option Src}, mean tbl C (k + 2) i_whole_root [.val (.int (N : Nat)), .val (.int n)] S = some (.val (.int (c : Nat)), S) := by
  have key : ∀ (k : Nat) (S : Option Src), ∃ c, Br N n c ∧ mean tbl C (k + 2) i_whole_root [.val (.int (N : Nat)), .val (.int n)] S = some (.val (.int (c : Nat)), S) := fun k S => by
    have hF : ∀ r, r ≤ 4096 → r < FUEL := fun r h => fuel_big (Nat.lt_of_le_of_lt h (by decide +kernel))
    obtain ⟨j, hj, hN, hw⟩ := wr_up (k := k) (S := S) K 10 0 FUEL rfl (hF _ (by decide))
    have z0 : (0 : Nat) ^ n ≤ N := by rw [Nat.zero_pow K.n0]; exact Nat.zero_le _
    obtain ⟨c, z3, z4, g1, g2, g3, g4⟩ := wr_mid (k := k) (S := S) K 2048 0 (2 ^ j) FUEL .un (by have := two_i j hj; omega) (Nat.two_pow_pos j) (two_i j hj) z0 hN (hF _ (by decide))
    refine ⟨c, ⟨g1, g2, g3⟩, ?_⟩
    have e0 : ((2 ^ 0 : Nat) : Int) = 1 := rfl
    have e1 : ((0 : Nat) : Int) = 0 := rfl
    rw [e0] at hw
    rw [e1] at g4
    rw [u_whole_root]
    simp only [b_whole_root]
    simp only [wrA] at hw
    simp only [wrB] at g4
    generalize ((2 ^ j : Nat) : Int) = z1 at *
    simp -implicitDefEqProofs [hw, g4]
  obtain ⟨c, hc, _⟩ := key 0 none
  refine ⟨c, hc, fun {k S} => ?_⟩
  obtain ⟨c', hc', e⟩ := key k S
  rw [e, hc.uniq K.n0 hc']
/-! the law's -/
def erA : List Stm := [.par [2, 3] [.var 3, .bin .mul (.int 2) (.var 3)]]
def erB : List Stm := [.asg 4 (.bin .fdiv (.bin .add (.var 2) (.var 3)) (.int 2)),
    .asgT (.tup [.name 2, .name 3]) (.ite (.cmp .le (.call 48 [.var 4, .var 1]) (.var 0)) (.tup [.var 4, .var 3]) (.tup [.var 2, .var 4]))]
theorem er_up (K : Nk N n) : ∀ (r i fuel : Nat), i + r = 9 → r < fuel → (2 ^ i) ^ n ≤ N → ∃ j, j ≤ 10 ∧ (2 ^ j) ^ n ≤ N ∧ N < (2 ^ (j + 1)) ^ n ∧ whileF (fT (ev (mean tbl C (k + 1)) C (.cmp .le (.call 48 [.var 3, .var 1]) (.var 0)))) (exB (mean tbl C (k + 1)) C FUEL erA) fuel ⟨[.val (.int (N : Nat)), .val (.int n), .val (.int (2 ^ i : Nat)), .val (.int (2 ^ (i + 1) : Nat)), .un], S⟩ = some (.nx, ⟨[.val (.int (N : Nat)), .val (.int n), .val (.int (2 ^ j : Nat)), .val (.int (2 ^ (j + 1) : Nat)), .un], S⟩) := by
  intro r
  induction r with
  | zero =>
    intro i fuel hi hf h0
    obtain ⟨fuel, rfl⟩ : ∃ a, fuel = a + 1 := ⟨fuel - 1, by omega⟩
    have i10 : i = 9 := by omega
    subst i10
    have h1 : N < (2 ^ (9 + 1)) ^ n := Nat.lt_of_le_of_lt K.le ((pow_lt_iff K.n0).mpr (by decide))
    refine ⟨9, by decide, h0, h1, ?_⟩
    have n60 := K.n60
    have v := lnp (k := k) (S := S) (m := 2 ^ (9 + 1)) (n := n) (by decide) (by omega)
    have c1 : ¬ (((((2 ^ (9 + 1) : Nat) ^ n : Nat)) : Int) ≤ (N : Int)) := by omega
    simp only [whileF]
    generalize (((2 ^ (9 + 1) : Nat) ^ n : Nat) : Int) = z1 at *
    generalize ((2 ^ (9 + 1) : Nat) : Int) = z2 at *
    simp -implicitDefEqProofs [v, c1]
  | succ r ih =>
    intro i fuel hi hf h0
    obtain ⟨fuel, rfl⟩ : ∃ a, fuel = a + 1 := ⟨fuel - 1, by omega⟩
    have n60 := K.n60
    have t := two_i (i + 1) (by omega)
    have v := lnp (k := k) (S := S) (m := 2 ^ (i + 1)) (n := n) (by omega) (by omega)
    by_cases hle : (2 ^ (i + 1)) ^ n ≤ N
    · obtain ⟨j, hj, hj0, hN, hw⟩ := ih (i + 1) fuel (by omega) (by omega) hle
      refine ⟨j, hj, hj0, hN, ?_⟩
      have c1 : ((((2 ^ (i + 1) : Nat) ^ n : Nat)) : Int) ≤ (N : Int) := by omega
      have e2 : (2 : Int) * ((2 ^ (i + 1) : Nat) : Int) = ((2 ^ (i + 1 + 1) : Nat) : Int) := by rw [Nat.pow_succ 2 (i + 1)]; omega
      have mu : bopD .mul (.int 2) (.int ((2 ^ (i + 1) : Nat) : Int)) = some (.val (.int ((2 ^ (i + 1 + 1) : Nat) : Int))) := by
        rw [← e2]; exact mul_int (.inr (.inl (by decide)))
      clear e2
      simp only [whileF]
      simp only [erA] at hw ⊢
      generalize (((2 ^ (i + 1) : Nat) ^ n : Nat) : Int) = z1 at *
      generalize ((2 ^ i : Nat) : Int) = z0 at *
      generalize ((2 ^ (i + 1 + 1) : Nat) : Int) = z3 at *
      generalize ((2 ^ (i + 1) : Nat) : Int) = z2 at *
      generalize ((2 ^ (j + 1) : Nat) : Int) = z5 at *
      generalize ((2 ^ j : Nat) : Int) = z4 at *
      simp -implicitDefEqProofs [v, c1, mu, hw]
    · refine ⟨i, by omega, h0, by omega, ?_⟩
      have c1 : ¬ (((((2 ^ (i + 1) : Nat) ^ n : Nat)) : Int) ≤ (N : Int)) := by omega
      simp only [whileF]
      generalize (((2 ^ (i + 1) : Nat) ^ n : Nat) : Int) = z1 at *
      generalize ((2 ^ (i + 1) : Nat) : Int) = z2 at *
      generalize ((2 ^ i : Nat) : Int) = z0 at *
      simp -implicitDefEqProofs [v, c1]
theorem er_mid (K : Nk N n) : ∀ (r lo hi fuel : Nat) (y4 : SV), hi - lo ≤ r → lo < hi → hi ≤ 2048 → lo ^ n ≤ N → N < hi ^ n → r < fuel → ∃ (c : Nat) (z3 z4 : SV), c ≤ 1001 ∧ c ^ n ≤ N ∧ N < (c + 1) ^ n ∧ whileF (fT (ev (mean tbl C (k + 1)) C (.cmp .gt (.bin .sub (.var 3) (.var 2)) (.int 1)))) (exB (mean tbl C (k + 1)) C FUEL erB) fuel ⟨[.val (.int (N : Nat)), .val (.int n), .val (.int (lo : Nat)), .val (.int (hi : Nat)), y4], S⟩ = some (.nx, ⟨[.val (.int (N : Nat)), .val (.int n), .val (.int (c : Nat)), z3, z4], S⟩) := by
  intro r
  induction r with
  | zero => intro lo hi fuel y4 h1 h2; omega
  | succ r ih =>
    intro lo hi fuel y4 h1 h2 h3 h4 h5 hf
    obtain ⟨fuel, rfl⟩ : ∃ a, fuel = a + 1 := ⟨fuel - 1, by omega⟩
    have n60 := K.n60
    by_cases hs : hi - lo ≤ 1
    · have e : hi = lo + 1 := by omega
      subst e
      refine ⟨lo, .val (.int (lo + 1 : Nat)), y4, K.small h4, h4, h5, ?_⟩
      have c1 : ¬ ((1 : Int) < ((lo + 1 : Nat) : Int) - (lo : Int)) := by omega
      simp only [whileF]
      generalize ((lo + 1 : Nat) : Int) = z1 at *
      simp -implicitDefEqProofs [c1]
    · have md : (lo + hi) / 2 < hi ∧ lo < (lo + hi) / 2 := by omega
      have c1 : (1 : Int) < (hi : Int) - (lo : Int) := by omega
      have e1 : (lo : Int) + (hi : Int) = ((lo + hi : Nat) : Int) := by omega
      have fd : bopD .fdiv (.int ((lo + hi : Nat) : Int)) (.int 2) = some (.val (.int (((lo + hi) / 2 : Nat) : Int))) := fdiv_nat (a := lo + hi) (b := 2) (by decide) (by decide)
      have v := lnp (k := k) (S := S) (m := (lo + hi) / 2) (n := n) (by omega) (by omega)
      by_cases hle : ((lo + hi) / 2) ^ n ≤ N
      · obtain ⟨c, z3, z4, g1, g2, g3, g4⟩ := ih ((lo + hi) / 2) hi fuel (.val (.int (((lo + hi) / 2 : Nat) : Int))) (by omega) md.1 h3 hle h5 (by omega)
        refine ⟨c, z3, z4, g1, g2, g3, ?_⟩
        have c2 : (((((lo + hi) / 2 : Nat) ^ n : Nat)) : Int) ≤ (N : Int) := by omega
        simp only [whileF]
        simp only [erB] at g4 ⊢
        generalize (((lo + hi) / 2 : Nat) ^ n : Nat) = w1 at *
        generalize (((lo + hi) / 2 : Nat) : Int) = z1 at *
        generalize ((lo + hi : Nat) : Int) = z2 at *
        simp -implicitDefEqProofs [c1, e1, fd, v, c2, g4]
      · obtain ⟨c, z3, z4, g1, g2, g3, g4⟩ := ih lo ((lo + hi) / 2) fuel (.val (.int (((lo + hi) / 2 : Nat) : Int))) (by omega) md.2 (by omega) h4 (by omega) (by omega)
        refine ⟨c, z3, z4, g1, g2, g3, ?_⟩
        have c2 : ¬ ((((((lo + hi) / 2 : Nat) ^ n : Nat)) : Int) ≤ (N : Int)) := by omega
        simp only [whileF]
        simp only [erB] at g4 ⊢
        generalize (((lo + hi) / 2 : Nat) ^ n : Nat) = w1 at *
        generalize (((lo + hi) / 2 : Nat) : Int) = z1 at *
        generalize ((lo + hi : Nat) : Int) = z2 at *
        simp -implicitDefEqProofs [c1, e1, fd, v, c2, g4]
def rtD (N n c : Nat) : PyData := if c ^ n = N then .int (c : Nat) else .none
theorem v__law_exact_root (K : Nk N n) (N0 : 0 < N) (B : Br N n q) : mean tbl C (k + 2) i__law_exact_root [.val (.int (N : Nat)), .val (.int n)] S = some (.val (rtD N n q), S) := by
  have hF : ∀ r, r ≤ 4096 → r < FUEL := fun r h => fuel_big (Nat.lt_of_le_of_lt h (by decide +kernel))
  obtain ⟨j, hj, hj0, hN, hw⟩ := er_up (k := k) (S := S) K 9 0 FUEL rfl (hF _ (by decide)) (by rw [Nat.pow_zero, Nat.one_pow]; exact N0)
  obtain ⟨c, z3, z4, g1, g2, g3, g4⟩ := er_mid (k := k) (S := S) K 2048 (2 ^ j) (2 ^ (j + 1)) FUEL .un (by have := two_i (j + 1) (by omega); omega) (Nat.pow_lt_pow_right (by decide) (by omega)) (two_i (j + 1) (by omega)) hj0 hN (hF _ (by decide))
  have ec : c = q := Br.uniq K.n0 ⟨g1, g2, g3⟩ B
  subst ec
  have n60 := K.n60
  have v := lnp (k := k) (S := S) (m := c) (n := n) (by omega) (by omega)
  have e0 : ((2 ^ 0 : Nat) : Int) = 1 := rfl
  have e1 : ((2 ^ (0 + 1) : Nat) : Int) = 2 := rfl
  rw [e0, e1] at hw
  rw [u__law_exact_root]
  simp only [b__law_exact_root]
  simp only [erA] at hw
  simp only [erB] at g4
  unfold rtD
  have hc : ((c ^ n : Nat) : Int) = (N : Int) ↔ c ^ n = N := by omega
  generalize ((2 ^ j : Nat) : Int) = z1 at *
  generalize ((2 ^ (j + 1) : Nat) : Int) = z2 at *
  by_cases h : c ^ n = N
  · rw [if_pos h]
    have h2 := hc.mpr h
    generalize ((c ^ n : Nat) : Int) = w at *
    simp -implicitDefEqProofs [hw, g4, v, h2]
  · rw [if_neg h]
    have h2 : ¬ ((c ^ n : Nat) : Int) = (N : Int) := fun z => h (hc.mp z)
    generalize ((c ^ n : Nat) : Int) = w at *
    simp -implicitDefEqProofs [hw, g4, v, h2]
end
end K48

set_option Elab.async false
set_option linter.all false
set_option maxRecDepth 100000
set_option maxHeartbeats 4000000
set_option exponentiation.threshold 200000
set_option autoImplicit false
namespace K48
open PySem DE
open L2 (ixN)
section
variable {k n m q i j d a b e v w r1 r2 : Nat} {S : Option Src} {x y c s t : Rat} {f g h u p : List Rat} {N : Nat} {z : Int}
theorem fq_pow (X : Fq a b x) : ∀ i, Fq (a * i) (b * i) (x ^ i)
  | 0 => by rw [Rat.pow_zero]; exact fq_one.mono (by omega) (by omega)
  | i + 1 => by rw [Rat.pow_succ]; exact ((fq_pow X i).mul X).mono (by rw [Nat.mul_succ]; omega) (by rw [Nat.mul_succ]; omega)
theorem v_fraction_power (X : Fq a b x) (ha : a * n + a < 4400) (hb : b * n + b < 40000) (hn : n ≤ 1000) : mean tbl C (k + 4) i_fraction_power [.val (dQ x), .val (.int n)] S = some (.val (dQ (x ^ n)), S) := by
  obtain ⟨st', h1, y3, rfl⟩ := for_rng (tg := .name 3) (ψ := exB (mean tbl C (k + 3)) C FUEL [.asg 2 (.call 4 [.var 2, .var 0])]) (e := fun i => .int (i : Nat)) (n := n) (st := ⟨[.val (dQ x), .val (.int n), .val (dQ (x ^ 0)), .un], S⟩) (P := fun i st => ∃ y3, st = ⟨[.val (dQ x), .val (.int n), .val (dQ (x ^ i)), y3], S⟩) ⟨_, rfl⟩ (by
    rintro i hi st ⟨y3, rfl⟩
    refine ⟨_, _, rfl, ?_, .val (.int i), rfl⟩
    have l1 : a * i ≤ a * n := Nat.mul_le_mul_left a (by omega)
    have l2 : b * i ≤ b * n := Nat.mul_le_mul_left b (by omega)
    have a1 := v_fraction_times (k := k) (S := S) (fq_sm (fq_pow X i) (by omega) (by omega)) (fq_sm X (by omega) (by omega))
    rw [← Rat.pow_succ] at a1
    show _ = some (Out.nx, (⟨[.val (dQ x), .val (.int n), .val (dQ (x ^ (i + 1))), .val (.int (i : Nat))], S⟩ : Stt))
    generalize dQ (x ^ (i + 1)) = r1 at *
    generalize dQ (x ^ i) = r2 at *
    simp -implicitDefEqProofs [a1])
  have rg := rng_one' (n := n) (by omega)
  rw [Rat.pow_zero] at h1
  rw [u_fraction_power]
  simp only [b_fraction_power]
  generalize dQ (x ^ n) = r at *
  generalize (List.range n).map (fun i => PyData.int (i : Nat)) = items at *
  simp -implicitDefEqProofs [rg, dQ_1, h1]
/-! ### roots of fractions -/
structure Rc (n : Nat) (c : Rat) : Prop where
  c0 : c ≠ 0
  K1 : Nk c.num.natAbs n
  K2 : Nk c.den n
def rtsD (c : Rat) (n r1 r2 : Nat) : PyData :=
  if (c.num < 0 ∧ n % 2 = 0) ∨ r1 ^ n ≠ c.num.natAbs ∨ r2 ^ n ≠ c.den then .tuple []
  else if n % 2 = 1 then .tuple [.tuple [.int (if c.num < 0 then -(r1 : Int) else (r1 : Int)), .int (r2 : Nat)]]
  else .tuple [.tuple [.int (-(r1 : Int)), .int (r2 : Nat)], .tuple [.int (r1 : Nat), .int (r2 : Nat)]]
theorem abs_z (z : Int) : blD .abs [.int z] = some (.val (.int ((z.natAbs : Nat) : Int))) := by
  show some (R.val (.int _)) = _
  congr 3
theorem v_fraction_root (R : Rc n c) (B1 : Br c.num.natAbs n r1) (B2 : Br c.den n r2) : mean tbl C (k + 3) i_fraction_root [.val (dQ c), .val (.int n)] S = some (.val (if (c.num < 0 ∧ n % 2 = 0) ∨ r1 ^ n ≠ c.num.natAbs ∨ r2 ^ n ≠ c.den then .none else .tuple [.int (if c.num < 0 then -(r1 : Int) else (r1 : Int)), .int (r2 : Nat)]), S) := by
  obtain ⟨s1, h1, w1⟩ := v_whole_root R.K1
  obtain ⟨s2, h2, w2⟩ := v_whole_root R.K2
  have e1 := h1.uniq R.K1.n0 B1
  have e2 := h2.uniq R.K1.n0 B2
  subst e1 e2
  have w1' := w1 (k := k) (S := S)
  have w2' := w2 (k := k) (S := S)
  have n60 := R.K1.n60
  have p1 := np (k := k + 1) (S := S) (m := s1) (n := n) (by have := h1.1; omega) (by omega)
  have p2 := np (k := k + 1) (S := S) (m := s2) (n := n) (by have := h2.1; omega) (by omega)
  have fm := fmod_nat (a := n) (b := 2) (by decide)
  have fm' : bopD .mod (.int (n : Int)) (.int 2) = some (.val (.int ((n % 2 : Nat) : Int))) := fm
  have ab := abs_z c.num
  have z0 := dQ_num (x := c)
  have z1 := dQ_den (x := c)
  have q1 : ((s1 ^ n : Nat) : Int) = ((c.num.natAbs : Nat) : Int) ↔ s1 ^ n = c.num.natAbs := by omega
  have q2 : ((s2 ^ n : Nat) : Int) = ((c.den : Nat) : Int) ↔ s2 ^ n = c.den := by omega
  have q3 : ((n % 2 : Nat) : Int) = 0 ↔ n % 2 = 0 := by omega
  rw [u_fraction_root]
  simp only [b_fraction_root]
  clear w1 w2 fm h1 h2 B1 B2
  generalize dQ c = dc at *
  generalize c.num.natAbs = A1 at *
  generalize c.den = A2 at *
  generalize c.num = cn at *
  generalize s1 ^ n = P1 at *
  generalize s2 ^ n = P2 at *
  generalize n % 2 = md at *
  by_cases g1 : cn < 0
  · by_cases g2 : md = 0
    · simp -implicitDefEqProofs [z0, z1, fm', g1, g2]
    · by_cases g3 : P1 = A1 <;> by_cases g4 : P2 = A2 <;> simp -implicitDefEqProofs [z0, z1, fm', g1, g2, g3, g4, ab, w1', w2', p1, p2, q1, q2, q3]
  · by_cases g3 : P1 = A1 <;> by_cases g4 : P2 = A2 <;> simp -implicitDefEqProofs [z0, z1, fm', g1, g3, g4, ab, w1', w2', p1, p2, q1, q2, q3]
theorem v_turned {a b : Int} : mean tbl C (k + 1) i_fraction_turned [.val (.tuple [.int a, .int b])] S = some (.val (.tuple [.int (-a), .int b]), S) := by
  have i0 : ixD (.tuple [.int a, .int b]) (.int 0) = some (.val (.int a)) := rfl
  have i1 : ixD (.tuple [.int a, .int b]) (.int 1) = some (.val (.int b)) := rfl
  rw [u_fraction_turned]
  simp only [b_fraction_turned]
  simp -implicitDefEqProofs [i0, i1]
theorem v_roots_of (R : Rc n c) (B1 : Br c.num.natAbs n r1) (B2 : Br c.den n r2) : mean tbl C (k + 4) i_roots_of [.val (dQ c), .val (.int n)] S = some (.val (rtsD c n r1 r2), S) := by
  have v1 := v_fraction_root (k := k) (S := S) R B1 B2
  have fm := fmod_nat (a := n) (b := 2) (by decide)
  have fm' : bopD .mod (.int (n : Int)) (.int 2) = some (.val (.int ((n % 2 : Nat) : Int))) := fm
  have hn : n % 2 = 0 ∨ n % 2 = 1 := by omega
  have is0 : copD .is .none .none = some (.val (.bool true)) := rfl
  have is1 : ∀ a b : Int, copD .is (.tuple [.int a, .int b]) .none = some (.val (.bool false)) := fun _ _ => rfl
  rw [u_roots_of]
  simp only [b_roots_of]
  unfold rtsD
  clear fm B1 B2
  by_cases g : (c.num < 0 ∧ n % 2 = 0) ∨ r1 ^ n ≠ c.num.natAbs ∨ r2 ^ n ≠ c.den
  · rw [if_pos g] at v1 ⊢
    generalize dQ c = dc at *
    simp -implicitDefEqProofs [v1, is0]
  · rw [if_neg g] at v1 ⊢
    have tu := v_turned (k := k + 2) (S := S) (a := if c.num < 0 then -(r1 : Int) else (r1 : Int)) (b := (r2 : Int))
    rcases hn with h | h
    · have hz : ¬ c.num < 0 := fun z => g (.inl ⟨z, h⟩)
      rw [if_neg hz] at v1 tu
      rw [if_neg (by omega)]
      rw [h] at fm'
      have fm2 : bopD .mod (.int (n : Int)) (.int 2) = some (.val (.int 0)) := fm'
      clear g
      generalize dQ c = dc at *
      simp -implicitDefEqProofs [v1, is1, fm2, tu]
    · rw [if_pos h]
      rw [h] at fm'
      have fm2 : bopD .mod (.int (n : Int)) (.int 2) = some (.val (.int 1)) := fm'
      clear g
      generalize dQ c = dc at *
      generalize (if c.num < 0 then -(r1 : Int) else (r1 : Int)) = rr at *
      simp -implicitDefEqProofs [v1, is1, fm2, tu]
theorem v__law_roots (R : Rc n c) (B1 : Br c.num.natAbs n r1) (B2 : Br c.den n r2) : mean tbl C (k + 3) i__law_roots [.val (dQ c), .val (.int n)] S = some (.val (rtsD c n r1 r2), S) := by
  have hn0 : 0 < c.num.natAbs := by have := num_ne R.c0; omega
  have w1 := v__law_exact_root (k := k) (S := S) R.K1 hn0 B1
  have w2 := v__law_exact_root (k := k) (S := S) R.K2 c.den_pos B2
  have fm := fmod_nat (a := n) (b := 2) (by decide)
  have fm' : bopD .mod (.int (n : Int)) (.int 2) = some (.val (.int ((n % 2 : Nat) : Int))) := fm
  have bi : blD .int [.int (n : Nat)] = some (.val (.int (n : Nat))) := rfl
  have hn : n % 2 = 0 ∨ n % 2 = 1 := by omega
  have ab := abs_z c.num
  have z0 := dQ_num (x := c)
  have z1 := dQ_den (x := c)
  have nz := num_ne R.c0
  have is0 : copD .is .none .none = some (.val (.bool true)) := rfl
  have is1 : ∀ a : Int, copD .is (.int a) .none = some (.val (.bool false)) := fun _ => rfl
  rw [u__law_roots]
  simp only [b__law_roots]
  unfold rtsD
  unfold rtD at w1 w2
  clear fm B1 B2
  by_cases g1 : r1 ^ n = c.num.natAbs
  · rw [if_pos g1] at w1
    by_cases g2 : r2 ^ n = c.den
    · rw [if_pos g2] at w2
      rcases hn with h | h
      · rw [h] at fm'
        have fm2 : bopD .mod (.int (n : Int)) (.int 2) = some (.val (.int 0)) := fm'
        by_cases g3 : c.num < 0
        · rw [if_pos (.inl ⟨g3, h⟩)]
          clear g1 g2
          generalize c.num.natAbs = A1 at *
          generalize c.den = A2 at *
          generalize dQ c = dc at *
          generalize c.num = cn at *
          simp -implicitDefEqProofs [w1, w2, ab, z0, z1, is1, g3, bi, fm2]
        · rw [if_neg (by simp [g1, g2]; omega), if_neg (by omega)]
          clear g1 g2
          generalize c.num.natAbs = A1 at *
          generalize c.den = A2 at *
          generalize dQ c = dc at *
          generalize c.num = cn at *
          simp -implicitDefEqProofs [w1, w2, ab, z0, z1, is1, g3, bi, fm2]
      · rw [h] at fm'
        have fm2 : bopD .mod (.int (n : Int)) (.int 2) = some (.val (.int 1)) := fm'
        rw [if_neg (by simp [g1, g2]; omega), if_pos h]
        clear g1 g2
        generalize c.num.natAbs = A1 at *
        generalize c.den = A2 at *
        generalize dQ c = dc at *
        generalize c.num = cn at *
        by_cases g3 : cn < 0
        · have g4 : ¬ 0 < cn := by omega
          simp -implicitDefEqProofs [w1, w2, ab, z0, z1, is1, g3, g4, bi, fm2]
        · have g4 : 0 < cn := by omega
          simp -implicitDefEqProofs [w1, w2, ab, z0, z1, is1, g3, g4, bi, fm2]
    · rw [if_neg g2] at w2
      rw [if_pos (.inr (.inr g2))]
      clear g1 g2
      generalize c.num.natAbs = A1 at *
      generalize c.den = A2 at *
      generalize dQ c = dc at *
      generalize c.num = cn at *
      simp -implicitDefEqProofs [w1, w2, ab, z0, z1, is0, is1]
  · rw [if_neg g1] at w1
    rw [if_pos (.inr (.inl g1))]
    clear g1
    have hw2 : ∃ d, mean tbl C (k + 2) i__law_exact_root [.val (.int (c.den : Nat)), .val (.int n)] S = some (.val d, S) := ⟨_, w2⟩
    obtain ⟨d2, w2'⟩ := hw2
    clear w2
    generalize c.num.natAbs = A1 at *
    generalize c.den = A2 at *
    generalize dQ c = dc at *
    generalize c.num = cn at *
    simp -implicitDefEqProofs [w1, w2', ab, z0, z1, is0]
theorem br_ex (K : Nk N n) : ∃ c, Br N n c := by
  obtain ⟨c, h, _⟩ := v_whole_root K
  exact ⟨c, h⟩
theorem rp_i {z : Int} (h : z.natAbs ≤ 1001) : Rp 700 0 (.int z) := rp_int (Nat.lt_of_le_of_lt h (by decide +kernel))
theorem rep_rts (B1 : r1 ≤ 1001) (B2 : r2 ≤ 1001) : blD .repr [rtsD c n r1 r2] = some (.val (.str (rtsD c n r1 r2).shown)) := by
  have pr : ∀ {z : Int}, z.natAbs ≤ 1001 → Rp 1407 1 (.tuple [.int z, .int (r2 : Nat)]) ∧ Nice 1 (.tuple [.int z, .int (r2 : Nat)]) := fun hz => by
    refine ⟨rp_tuple (n := 700) (fun d hd => ?_) (by simp), nice_tuple fun d hd => ?_⟩
    · simp only [List.mem_cons, List.not_mem_nil, or_false] at hd
      rcases hd with rfl | rfl
      · exact rp_i hz
      · exact rp_i (by rw [Int.natAbs_natCast]; exact B2)
    · simp only [List.mem_cons, List.not_mem_nil, or_false] at hd
      rcases hd with rfl | rfl <;> exact nice_int _
  unfold rtsD
  split
  · exact shown (n := 5000) (h := 2) (rp_tuple (n := 1407) (h := 1) (fun d hd => by cases hd) (by simp)) (nice_tuple fun d hd => by cases hd) (by decide) (by decide)
  · split
    · refine shown (n := 5000) (h := 2) (rp_tuple (n := 1407) (h := 1) (fun d hd => ?_) (by simp)) (nice_tuple fun d hd => ?_) (by decide) (by decide)
      · rw [List.mem_singleton.mp hd]; exact (pr (by split <;> omega)).1
      · rw [List.mem_singleton.mp hd]; exact (pr (by split <;> omega)).2
    · refine shown (n := 5000) (h := 2) (rp_tuple (n := 1407) (h := 1) (fun d hd => ?_) (by simp)) (nice_tuple fun d hd => ?_) (by decide) (by decide)
      · simp only [List.mem_cons, List.not_mem_nil, or_false] at hd
        rcases hd with rfl | rfl
        · exact (pr (by omega)).1
        · exact (pr (by omega)).1
      · simp only [List.mem_cons, List.not_mem_nil, or_false] at hd
        rcases hd with rfl | rfl
        · exact (pr (by omega)).2
        · exact (pr (by omega)).2
theorem mul_self_nonneg' (a : Int) : 0 ≤ a * a := by
  rcases Int.le_total 0 a with h | h
  · exact Int.mul_nonneg h h
  · exact Int.mul_nonneg_of_nonpos_of_nonpos h h
/-- a drawn one is among the roots of its power -/
theorem in_rts (hn : n % 2 = 0 ∨ n % 2 = 1) (x0 : x ≠ 0) : ∃ ds, rtsD (x ^ n) n x.num.natAbs x.den = .tuple ds ∧ dQ x ∈ ds ∧ (∀ d ∈ ds, Nice 1 d) := by
  have e1 : (x ^ n).num = x.num ^ n := Rat.num_pow x n
  have e2 : (x ^ n).den = x.den ^ n := Rat.den_pow x n
  have e3 : (x.num ^ n).natAbs = x.num.natAbs ^ n := Int.natAbs_pow x.num n
  have nz := num_ne x0
  have ev : n % 2 = 0 → ¬ (x.num ^ n < 0) := fun h z => by
    obtain ⟨m, rfl⟩ : ∃ m, n = m + m := ⟨n / 2, by omega⟩
    rw [Int.pow_add] at z
    have := mul_self_nonneg' (x.num ^ m)
    omega
  have od : n % 2 = 1 → (x.num ^ n < 0 ↔ x.num < 0) := fun h => by
    obtain ⟨m, rfl⟩ : ∃ m, n = m + m + 1 := ⟨n / 2, by omega⟩
    rw [Int.pow_succ, Int.pow_add]
    have h1 := mul_self_nonneg' (x.num ^ m)
    have h2 : x.num ^ m * x.num ^ m ≠ 0 := Int.mul_ne_zero (Int.pow_ne_zero nz) (Int.pow_ne_zero nz)
    generalize x.num ^ m * x.num ^ m = w at *
    constructor
    · intro z
      refine Classical.byContradiction fun g => ?_
      have : 0 ≤ w * x.num := Int.mul_nonneg h1 (by omega)
      omega
    · intro z
      exact Int.mul_neg_of_pos_of_neg (by omega) z
  unfold rtsD
  rw [e1, e2, e3]
  rcases hn with h | h
  · rw [if_neg (by simp [ev h]), if_neg (by omega)]
    refine ⟨_, rfl, ?_, fun d hd => ?_⟩
    · rw [List.mem_cons, List.mem_singleton]
      by_cases g : x.num < 0
      · left
        have : -((x.num.natAbs : Nat) : Int) = x.num := by omega
        rw [this]; rfl
      · right
        have : ((x.num.natAbs : Nat) : Int) = x.num := by omega
        rw [this]; rfl
    · simp only [List.mem_cons, List.not_mem_nil, or_false] at hd
      rcases hd with rfl | rfl <;> exact nice_tuple fun d hd => by
        simp only [List.mem_cons, List.not_mem_nil, or_false] at hd
        rcases hd with rfl | rfl <;> exact nice_int _
  · rw [if_neg (by simp; omega), if_pos h]
    refine ⟨_, rfl, ?_, fun d hd => ?_⟩
    · rw [List.mem_singleton]
      have : (if x.num ^ n < 0 then -((x.num.natAbs : Nat) : Int) else ((x.num.natAbs : Nat) : Int)) = x.num := by
        by_cases g : x.num < 0
        · rw [if_pos ((od h).mpr g)]; omega
        · rw [if_neg (fun z => g ((od h).mp z))]; omega
      rw [this]; rfl
    · rw [List.mem_singleton.mp hd]
      exact nice_tuple fun d hd => by
        simp only [List.mem_cons, List.not_mem_nil, or_false] at hd
        rcases hd with rfl | rfl <;> exact nice_int _
theorem nmem_rts {ds : List PyData} (h : dQ x ∈ ds) (hn : ∀ d ∈ ds, Nice 1 d) : copD .nmem (dQ x) (.tuple ds) = some (.val (.bool false)) := by
  have s1 : SeqAt.shaped (dQ x) = true := (nice_dQ x).shaped (by decide)
  have s2 : SeqAt.shaped (.tuple ds) = true := (nice_tuple hn : Nice 2 _).shaped (by decide)
  have a : ds.any (fun z => PyData.eqv z (dQ x)) = true := List.any_eq_true.mpr ⟨dQ x, h, by rw [eqv_dQ]; simp⟩
  have f : ¬ (flatD (dQ x) = true ∧ ds.all flatD = true) := fun z => by cases z.1
  show (if flatD (dQ x) = true ∧ ds.all flatD = true then some (R.val (.bool (!ds.any fun z => eqF z (dQ x)))) else if SeqAt.shaped (dQ x) = true ∧ SeqAt.shaped (.tuple ds) = true then some (R.val (.bool (!ds.any fun z => PyData.eqv z (dQ x)))) else none) = _
  rw [if_neg f, if_pos ⟨s1, s2⟩, a]; rfl
/-! ### degrees repeated -/
def ddL (n : Nat) : List Nat := (List.range (n - 1)).map (2 + ·)
theorem rng_2 (n1 : 1 ≤ n) (h : n ≤ 100000) : rngD [.int 2, .int ((n : Int) + 1)] = some ((ddL n).map fun d => .int (d : Nat)) := by
  have := rng_two' (a := 2) (b := (n : Int) + 1) (m := n - 1) (by decide) (by omega) (by omega) (by omega)
  rw [this, ddL, List.map_map]
  rfl
def dgD (n k : Nat) : PyData := match (ddL n).find? fun d => decide (d ^ k = n) with
  | some d => .int (d : Nat)
  | none => .none
theorem rd_loop (hk : k ≤ 60) (n5 : n ≤ 100000) : ∀ (L : List Nat), (∀ d ∈ L, d ≤ 100000) → ∀ y2 : SV,
    (∀ d, L.find? (fun d => decide (d ^ k = n)) = some d → ∃ st', forF (.name 2) (exB (mean tbl C (i + 1)) C FUEL [.ifS (.cmp .eq (.call 7 [.var 2, .var 1]) (.var 0)) [.ret (.var 2)] []]) (L.map fun d => .int (d : Nat)) ⟨[.val (.int n), .val (.int k), y2], S⟩ = some (.rt (.val (.int (d : Nat))), st') ∧ st'.S = S) ∧
    (L.find? (fun d => decide (d ^ k = n)) = none → ∃ z2, forF (.name 2) (exB (mean tbl C (i + 1)) C FUEL [.ifS (.cmp .eq (.call 7 [.var 2, .var 1]) (.var 0)) [.ret (.var 2)] []]) (L.map fun d => .int (d : Nat)) ⟨[.val (.int n), .val (.int k), y2], S⟩ = some (.nx, ⟨[.val (.int n), .val (.int k), z2], S⟩))
  | [], _, y2 => ⟨fun d h => by simp at h, fun _ => ⟨y2, rfl⟩⟩
  | d :: L, hL, y2 => by
    have ih := rd_loop hk n5 L (fun z hz => hL z (List.mem_cons_of_mem _ hz)) (.val (.int (d : Nat)))
    have v := np (k := i) (S := S) (m := d) (n := k) (by have := hL d (List.mem_cons_self ..); omega) (by omega)
    have q1 : ((d ^ k : Nat) : Int) = (n : Int) ↔ d ^ k = n := by omega
    rw [List.find?_cons, List.map_cons]
    by_cases h : d ^ k = n
    · have h2 := q1.mpr h
      have st : exB (mean tbl C (i + 1)) C FUEL [.ifS (.cmp .eq (.call 7 [.var 2, .var 1]) (.var 0)) [.ret (.var 2)] []] ⟨[.val (.int n), .val (.int k), .val (.int (d : Nat))], S⟩ = some (.rt (.val (.int (d : Nat))), ⟨[.val (.int n), .val (.int k), .val (.int (d : Nat))], S⟩) := by
        generalize ((d ^ k : Nat) : Int) = w at *
        simp -implicitDefEqProofs [v, h2]
      rw [decide_eq_true h]
      refine ⟨fun d' e => ?_, fun e => by cases e⟩
      cases e
      refine ⟨⟨[.val (.int n), .val (.int k), .val (.int (d : Nat))], S⟩, ?_, rfl⟩
      unfold forF
      have b : bindT (.name 2) (.int (d : Nat)) [.val (.int n), .val (.int k), y2] = some [.val (.int n), .val (.int k), .val (.int (d : Nat))] := rfl
      rw [b, Option.bind_some, st]
      rfl
    · have h2 : ¬ ((d ^ k : Nat) : Int) = (n : Int) := fun z => h (q1.mp z)
      have st : exB (mean tbl C (i + 1)) C FUEL [.ifS (.cmp .eq (.call 7 [.var 2, .var 1]) (.var 0)) [.ret (.var 2)] []] ⟨[.val (.int n), .val (.int k), .val (.int (d : Nat))], S⟩ = some (.nx, ⟨[.val (.int n), .val (.int k), .val (.int (d : Nat))], S⟩) := by
        generalize ((d ^ k : Nat) : Int) = w at *
        simp -implicitDefEqProofs [v, h2]
      rw [decide_eq_false h]
      have b : bindT (.name 2) (.int (d : Nat)) [.val (.int n), .val (.int k), y2] = some [.val (.int n), .val (.int k), .val (.int (d : Nat))] := rfl
      refine ⟨fun d' e => ?_, fun e => ?_⟩
      · obtain ⟨st', e1, e2⟩ := ih.1 d' e
        refine ⟨st', ?_, e2⟩
        unfold forF
        rw [b, Option.bind_some, st]
        exact e1
      · obtain ⟨z2, e1⟩ := ih.2 e
        refine ⟨z2, ?_⟩
        unfold forF
        rw [b, Option.bind_some, st]
        exact e1
theorem v_repeat_degree (hk : k ≤ 60) (n1 : 1 ≤ n) (n5 : n ≤ 20000) : mean tbl C (i + 2) i_repeat_degree [.val (.int n), .val (.int k)] S = some (.val (dgD n k), S) := by
  obtain ⟨l1, l2⟩ := rd_loop (i := i) (S := S) (n := n) hk (by omega) (ddL n) (fun d hd => by
    obtain ⟨j, hj, rfl⟩ := List.mem_map.mp hd
    have := List.mem_range.mp hj
    omega) .un
  have rg := rng_2 n1 (by omega)
  rw [u_repeat_degree]
  simp only [b_repeat_degree]
  unfold dgD
  generalize hf : (ddL n).find? (fun d => decide (d ^ k = n)) = o at *
  generalize (ddL n).map (fun d => PyData.int (d : Nat)) = items at *
  cases o with
  | some d =>
    obtain ⟨st', e1, e2⟩ := l1 d rfl
    clear l1 l2
    simp -implicitDefEqProofs [rg, e1, e2]
  | none =>
    obtain ⟨z2, e1⟩ := l2 rfl
    clear l1 l2
    simp -implicitDefEqProofs [rg, e1]
theorem v__law_degree_root (hk : k ≤ 60) (n1 : 1 ≤ n) (n5 : n ≤ 20000) : mean tbl C (i + 2) i__law_degree_root [.val (.int n), .val (.int k)] S = some (.val (dgD n k), S) := by
  have lc : lcLoop [3] (.name 3) (fT (ev (mean tbl C (i + 1)) C (.cmp .eq (.call 48 [.var 3, .var 1]) (.var 0)))) (fV (ev (mean tbl C (i + 1)) C (.var 3))) ((ddL n).map fun d => .int (d : Nat)) [] ⟨[.val (.int n), .val (.int k), .un, .un], S⟩ = some (((ddL n).filter fun d => decide (d ^ k = n)).map (fun d => .int (d : Nat)), ⟨[.val (.int n), .val (.int k), .un, .un], S⟩) := by
    refine lc_filterG0 _ _ _ _ (fun d hd => ⟨[.val (.int n), .val (.int k), .un, .val (.int d)], [.val (.int n), .val (.int k), .un, .val (.int d)], rfl, ?_, rfl, fun _ => ⟨by simp, rfl⟩⟩) (by show _ ≤ 1000000; simp [ddL]; omega)
    have hd5 : d ≤ 20001 := by
      obtain ⟨j, hj, rfl⟩ := List.mem_map.mp hd
      have := List.mem_range.mp hj
      omega
    have v := lnp (k := i) (S := S) (m := d) (n := k) (by omega) (by omega)
    have q1 : decide (((d ^ k : Nat) : Int) = (n : Int)) = decide (d ^ k = n) := by rw [decide_eq_decide]; omega
    generalize decide (d ^ k = n) = bb at *
    generalize ((d ^ k : Nat) : Int) = w at *
    simp -implicitDefEqProofs [v, q1]
  have rg := rng_2 n1 (by omega)
  have hh : ((ddL n).filter fun d => decide (d ^ k = n)).head? = (ddL n).find? fun d => decide (d ^ k = n) := List.head?_filter
  rw [u__law_degree_root]
  simp only [b__law_degree_root]
  unfold dgD
  rw [← hh]
  clear hh
  generalize (ddL n).map (fun d => PyData.int (d : Nat)) = items at *
  generalize (ddL n).filter (fun d => decide (d ^ k = n)) = L at *
  cases L with
  | nil =>
    simp -implicitDefEqProofs [rg, lc]
  | cons d L =>
    have ix : ixD (.list ((d :: L).map fun d => PyData.int (d : Nat))) (.int 0) = some (.val (.int (d : Nat))) := ix_lst (i := 0) rfl
    rw [List.map_cons] at ix lc
    generalize L.map (fun d => PyData.int (d : Nat)) = LL at *
    simp -implicitDefEqProofs [rg, lc, ix]
def rcN (d k : Nat) : Int := ((List.range k).map fun i => ((d ^ i : Nat) : Int)).sum
theorem sum_ints (L : List Int) : blD .sum [.list (L.map PyData.int)] = some (.val (.int L.sum)) := by
  show (intsOf (L.map PyData.int)).map _ = _
  rw [intsOf_map]; rfl
theorem v_repeat_count (hd : d ≤ 1000) (hk : k ≤ 100) : mean tbl C (i + 2) i_repeat_count [.val (.int d), .val (.int k)] S = some (.val (.int (rcN d k)), S) := by
  have lc : lcLoop [2] (.name 2) (fT (ev (mean tbl C (i + 1)) C .yes)) (fV (ev (mean tbl C (i + 1)) C (.call 7 [.var 0, .var 2]))) ((List.range k).map fun i => .int (i : Nat)) [] ⟨[.val (.int d), .val (.int k), .un], S⟩ = some (((List.range k).map fun i => ((d ^ i : Nat) : Int)).map PyData.int, ⟨[.val (.int d), .val (.int k), .un], S⟩) := by
    rw [List.map_map]
    refine lc_mapG0 _ _ yes_true _ (fun j hj => ⟨[.val (.int d), .val (.int k), .val (.int j)], [.val (.int d), .val (.int k), .val (.int j)], rfl, ?_, rfl⟩) (by show _ ≤ 1000000; simp; omega)
    have hj := List.mem_range.mp hj
    have v := np (k := i) (S := S) (m := d) (n := j) (by omega) (by omega)
    simp only [Function.comp]
    generalize ((d ^ j : Nat) : Int) = w at *
    simp -implicitDefEqProofs [v]
  have rg := rng_one' (n := k) (by omega)
  have sm := sum_ints ((List.range k).map fun i => ((d ^ i : Nat) : Int))
  rw [u_repeat_count]
  simp only [b_repeat_count]
  unfold rcN
  generalize ((List.range k).map fun i => ((d ^ i : Nat) : Int)).sum = r at *
  generalize ((List.range k).map fun i => ((d ^ i : Nat) : Int)).map PyData.int = L at *
  generalize (List.range k).map (fun i => PyData.int (i : Nat)) = items at *
  simp -implicitDefEqProofs [rg, lc, sm]
end
end K48

set_option Elab.async false
set_option linter.all false
set_option maxRecDepth 100000
set_option maxHeartbeats 4000000
set_option exponentiation.threshold 200000
set_option autoImplicit false
namespace K48
open PySem DE
open L2 (ixN)
section
variable {n m i j d a b e v t L D k l : Nat} {S : Option Src} {x y c : Rat} {f g h : List Rat} {N M E : Nat}
/-! ### put into itself -/
def rp (g : List Rat) : Nat → List Rat
  | 0 => [0, 1]
  | i + 1 => compP g (rp g i)
theorem vl_id (x : Rat) : vl [0, 1] x = x := by rw [vl_cons, vl_cons, vl_nil]; grind
theorem rp_tr (g : List Rat) : ∀ i, Tr (rp g i)
  | 0 => fun z => by simp [rp] at z
  | _ + 1 => compP_tr _
theorem rp_vl (g : List Rat) : ∀ i j x, vl (rp g (i + j)) x = vl (rp g i) (vl (rp g j) x)
  | 0, j, x => by rw [Nat.zero_add]; show _ = vl [0, 1] _; rw [vl_id]
  | i + 1, j, x => by
    have e : i + 1 + j = (i + j) + 1 := by omega
    rw [e, rp, rp, vl_comp, vl_comp, rp_vl g i j x]
theorem rp_add (g : List Rat) (i j : Nat) : compP (rp g i) (rp g j) = rp g (i + j) := tr_vl (compP_tr _) (rp_tr g _) fun x => by rw [vl_comp, rp_vl]
theorem rp_mul (g : List Rat) (k : Nat) : ∀ l, rp (rp g k) l = rp g (k * l)
  | 0 => rfl
  | l + 1 => by rw [rp, rp_mul g k l, rp_add, Nat.mul_succ, Nat.add_comm]
theorem rp_one (h : Tr g) : rp g 1 = g := tr_vl (compP_tr _) h fun x => by
  show vl (compP g [0, 1]) x = _
  rw [vl_comp, vl_id]
theorem pl_tr (P : PL n f) : Tr f := fun z => by
  rw [List.getLast?_eq_getElem?, P.len, Nat.add_sub_cancel, co_lt (by rw [P.len]; omega)] at z
  exact P.nz (Option.some.inj z)
def tE (d : Nat) : Nat → Nat
  | 0 => 0
  | i + 1 => 1 + d * tE d i
theorem pow_mul' (c : Rat) (a : Nat) : ∀ b, (c ^ a) ^ b = c ^ (b * a)
  | 0 => by rw [Rat.pow_zero, Nat.zero_mul, Rat.pow_zero]
  | b + 1 => by rw [Rat.pow_succ, pow_mul' c a b, Nat.succ_mul, pow_add']
where pow_add' {c : Rat} {a b : Nat} : c ^ a * c ^ b = c ^ (a + b) := by
        induction b with
        | zero => rw [Rat.pow_zero, Rat.mul_one]; rfl
        | succ b ih => rw [Rat.pow_succ, ← Rat.mul_assoc, ih, ← Nat.add_assoc, Rat.pow_succ]
theorem rp_pl (P : PL d g) : ∀ i, PL (d ^ i) (rp g i) ∧ co (rp g i) (d ^ i) = co g d ^ tE d i
  | 0 => ⟨⟨rfl, Nat.one_pos, by show (1 : Rat) ≠ 0; decide⟩, by show (1 : Rat) = _; rw [tE, Rat.pow_zero]⟩
  | i + 1 => by
    obtain ⟨h1, h2⟩ := rp_pl P i
    obtain ⟨h3, h4⟩ := comp_pl P h1
    rw [← Nat.pow_succ] at h3 h4
    refine ⟨h3, ?_⟩
    show co (compP g (rp g i)) _ = _
    rw [h4, h2, pow_mul', tE, Nat.add_comm, Rat.pow_succ, Rat.mul_comm]
theorem rp_len (P : PL d g) (i : Nat) : (rp g i).length = d ^ i + 1 := (rp_pl P i).1.len
/-! sizes -/
def tt (d i : Nat) : Nat := if d ^ i + 1 ≤ 4 then 2 else if d ^ i + 1 ≤ 8 then 3 else if d ^ i + 1 ≤ 16 then 4 else 5
def sA (a d : Nat) : Nat → Nat
  | 0 => 0
  | 1 => a
  | i + 2 => a + sA a d (i + 1) * d
def sB (b d : Nat) : Nat → Nat
  | 0 => 0
  | 1 => b
  | i + 2 => b + (sB b d (i + 1) + tt d (i + 1) + 1) * d
/-- numbers for putting one into another -/
def wc (a b D e v t L : Nat) : Prop := L ≤ 2 ^ t ∧ e ≤ v + t ∧ D ≤ 24 ∧ L ≤ 100 ∧ (D + 1) * L ≤ 250 ∧ a + e * (D + 1) ≤ 4400 ∧ b + (v + t + 1) * D ≤ 39000 ∧ v ≤ 39000
instance : Decidable (wc a b D e v t L) := by unfold wc; infer_instance
theorem wc_v (X : Pq a b g) (Y : Pq e v h) (lg : g.length ≤ D + 1) (lh : h.length ≤ L) (W : wc a b D e v t L) : mean tbl C (k + 5) i_poly_within [.val (dP g), .val (dP h)] S = some (.val (dP (compP g h)), S) := by
  obtain ⟨w1, w2, w3, w4, w5, w6, w7, w8⟩ := W
  exact v_within_q X Y lg (Nat.le_trans lh w1) w2 w3 (by omega) (Nat.le_trans (Nat.mul_le_mul_left _ lh) w5) w6 w7 w8
theorem wc_put (X : Pq a b g) (Y : Pq e v h) (lg : g.length = D + 1) (lh : h.length ≤ L) (W : wc a b D e v t L) : mean tbl C (k + 4) i__law_put [.val (dP g), .val (dP h)] S = some (.val (dP (compP g h)), S) := by
  obtain ⟨w1, w2, w3, w4, w5, w6, w7, w8⟩ := W
  obtain ⟨D0, M0, P, hD', hM'⟩ := pq_pi X
  obtain ⟨E0, N0, R, hE, hN⟩ := pq_pi Y
  refine v_put (dg := D) ⟨lg, P, R, lh, w4, by omega, by rw [lg]; exact w5, ?_, ?_, lt2 hN (by omega), lt2 hM' (by omega)⟩
  · rw [Nat.mul_assoc, ← Nat.pow_succ]
    have a1 : E0 ^ (D + 1) ≤ 2 ^ (e * (D + 1)) := by
      rw [Nat.pow_mul]; exact Nat.pow_le_pow_left hE _
    exact lt2 (a := a + e * (D + 1)) (two_mul_le hD' a1) (by omega)
  · have a0 : L * N0 + E0 ≤ 2 ^ (v + t + 1) := two_add_le (a := t + v) (b := e) (two_mul_le w1 hN) hE (by omega) (by omega)
    have a1 : (L * N0 + E0) ^ D ≤ 2 ^ ((v + t + 1) * D) := by
      rw [Nat.pow_mul]; exact Nat.pow_le_pow_left a0 D
    exact lt2 (a := b + (v + t + 1) * D) (two_mul_le hM' a1) (by omega)
theorem wc_q (X : Pq a b g) (Y : Pq e v h) (lg : g.length ≤ D + 1) (lh : h.length ≤ L) (W : wc a b D e v t L) : Pq (a + e * D) (b + (v + t + 1) * D) (compP g h) :=
  X.comp Y lg (Nat.le_trans lh W.1) W.2.1
def cond (a b d N : Nat) : Prop := ∀ i, i < N → wc a b d (sA a d i) (sB b d i) (tt d i) (d ^ i + 1)
instance : Decidable (cond a b d N) := by unfold cond; infer_instance
theorem rp_q (P : PL d g) (X : Pq a b g) (W : cond a b d N) : ∀ i, i ≤ N → Pq (sA a d i) (sB b d i) (rp g i)
  | 0, _ => ⟨1, 1, by decide, fun i => by
    match i with
    | 0 => exact Iw.zero _ _
    | 1 =>
      have : Iw 1 1 (1 : Rat) := ⟨1, by decide +kernel, by decide⟩
      exact this
    | i + 2 => rw [co_ge (by simp [rp])]; exact Iw.zero _ _, Nat.le_refl 1, Nat.le_refl 1⟩
  | 1, _ => by rw [rp_one (pl_tr P)]; exact X
  | i + 2, h => wc_q X (rp_q P X W (i + 1) (by omega)) (by rw [P.len]; exact Nat.le_refl _) (by rw [rp_len P]; exact Nat.le_refl _) (W (i + 1) (by omega))
theorem cX : C 2 = dP [0, 1] := rfl
theorem v_repeated (P : PL d g) (X : Pq a b g) (W : cond a b d N) (hk : n ≤ N) (h9 : N ≤ 100) : mean tbl C (k + 6) i_repeated [.val (dP g), .val (.int n)] S = some (.val (dP (rp g n)), S) := by
  obtain ⟨st', h1, y3, rfl⟩ := for_rng (tg := .name 3) (ψ := exB (mean tbl C (k + 5)) C FUEL [.asg 2 (.call 19 [.var 0, .var 2])]) (e := fun i => .int (i : Nat)) (n := n) (st := ⟨[.val (dP g), .val (.int n), .val (dP (rp g 0)), .un], S⟩) (P := fun i st => ∃ y3, st = ⟨[.val (dP g), .val (.int n), .val (dP (rp g i)), y3], S⟩) ⟨_, rfl⟩ (by
    rintro i hi st ⟨y3, rfl⟩
    refine ⟨_, ⟨[.val (dP g), .val (.int n), .val (dP (rp g (i + 1))), .val (.int i)], S⟩, rfl, ?_, .val (.int i), rfl⟩
    have v1 := wc_v (k := k) (S := S) X (rp_q P X W i (by omega)) (by rw [P.len]; exact Nat.le_refl _) (by rw [rp_len P]; exact Nat.le_refl _) (W i (by omega))
    have e : compP g (rp g i) = rp g (i + 1) := rfl
    rw [e] at v1
    generalize dP (rp g (i + 1)) = d1 at *
    generalize dP (rp g i) = d2 at *
    generalize dP g = d3 at *
    simp -implicitDefEqProofs [v1])
  have rg := rng_one' (n := n) (by omega)
  have e0 : rp g 0 = [0, 1] := rfl
  rw [e0] at h1
  have cX := cX
  rw [u_repeated]
  simp only [b_repeated]
  clear e0
  generalize dP (rp g n) = r at *
  generalize dP [0, 1] = r0 at *
  generalize dP g = r1 at *
  generalize (List.range n).map (fun i => PyData.int (i : Nat)) = items at *
  simp -implicitDefEqProofs [rg, cX, h1]
theorem v__law_repeat (P : PL d g) (X : Pq a b g) (W : cond a b d N) (hk : n ≤ N) (h9 : N ≤ 100) : mean tbl C (k + 5) i__law_repeat [.val (dP g), .val (.int n)] S = some (.val (dP (rp g n)), S) := by
  obtain ⟨st', h1, y3, rfl⟩ := for_rng (tg := .name 3) (ψ := exB (mean tbl C (k + 4)) C FUEL [.asg 2 (.call 44 [.var 0, .var 2])]) (e := fun i => .int (i : Nat)) (n := n) (st := ⟨[.val (dP g), .val (.int n), .val (dP (rp g 0)), .un], S⟩) (P := fun i st => ∃ y3, st = ⟨[.val (dP g), .val (.int n), .val (dP (rp g i)), y3], S⟩) ⟨_, rfl⟩ (by
    rintro i hi st ⟨y3, rfl⟩
    refine ⟨_, ⟨[.val (dP g), .val (.int n), .val (dP (rp g (i + 1))), .val (.int i)], S⟩, rfl, ?_, .val (.int i), rfl⟩
    have v1 := wc_put (k := k) (S := S) X (rp_q P X W i (by omega)) P.len (by rw [rp_len P]; exact Nat.le_refl _) (W i (by omega))
    have e : compP g (rp g i) = rp g (i + 1) := rfl
    rw [e] at v1
    generalize dP (rp g (i + 1)) = d1 at *
    generalize dP (rp g i) = d2 at *
    generalize dP g = d3 at *
    simp -implicitDefEqProofs [v1])
  have rg := rng_one' (n := n) (by omega)
  have e0 : dP (rp g 0) = .tuple [.tuple [.int 0, .int 1], .tuple [.int 1, .int 1]] := rfl
  rw [e0] at h1
  rw [u__law_repeat]
  simp only [b__law_repeat]
  clear e0
  generalize dP (rp g n) = r at *
  generalize dP g = r1 at *
  generalize (List.range n).map (fun i => PyData.int (i : Nat)) = items at *
  simp -implicitDefEqProofs [rg, h1]
/-! ### the cases -/
def zrOk (A B b' n m : Nat) : Prop := n + 1 ≤ (n + 1 - m) + m ∧ n + 1 ≤ (n / m + 1) * m ∧ A + b' * (n + 1 - m + 1) * (n / m + 1 + 1) + b' * (n + 1 - m + 1) < 4480 ∧ B + ((b' + 1) * (n + 1 - m + 1) + b') * (n / m + 1 + 1) + ((b' + 1) * (n + 1 - m + 1) + b') < 100000 ∧ b' < 4480
instance {A B b' : Nat} : Decidable (zrOk A B b' n m) := by unfold zrOk; infer_instance
structure Cs (d k l a b : Nat) : Prop where
  c1 : cond a b d (k + l)
  kl : k * l ≤ k + l
  c2 : cond (sA a d k) (sB b d k) (d ^ k) l
  w1 : wc (sA a d k) (sB b d k) (d ^ k) (sA a d l) (sB b d l) (tt d l) (d ^ l + 1)
  w2 : wc (sA a d l) (sB b d l) (d ^ l) (sA a d k) (sB b d k) (tt d k) (d ^ k + 1)
  w3 : wc (sA a d k) (sB b d k) (d ^ k) (sA a d l + sA a d l) (sB b d l + sA a d l) 1 2
  n27 : d ^ (k + l) ≤ 27
  sa : sA a d (k + l) < 80 ∧ sB b d (k + l) < 80 ∧ sA a d l < 80 ∧ sB b d l < 80 ∧ sA a d k < 80 ∧ sB b d k < 80 ∧ a < 80 ∧ b < 80
  zr : zrOk (sA a d (k + l)) (sB b d (k + l)) (sB b d l) (d ^ (k + l)) (d ^ l)
  rp : sA a d k + (sA a d l + sA a d l) * d ^ k < 1900 ∧ sB b d k + (sB b d l + sA a d l + 1 + 1) * d ^ k < 1900
  ex : (d = 2 ∨ d = 3) ∧ 1 ≤ k ∧ 1 ≤ l ∧ k ≤ 3 ∧ l ≤ 3 ∧ k + l ≤ 4
  du : rcN d k = (tE d k : Nat) ∧ tE d k ≤ 4
theorem cs1 : Cs 2 1 2 1 3 := ⟨by decide, by decide, by decide, by decide, by decide, by decide, by decide, by decide, by decide, by decide, by decide, by decide⟩
theorem cs2 : Cs 3 1 1 1 3 := ⟨by decide, by decide, by decide, by decide, by decide, by decide, by decide, by decide, by decide, by decide, by decide, by decide⟩
theorem cs3 : Cs 2 2 1 1 3 := ⟨by decide, by decide, by decide, by decide, by decide, by decide, by decide, by decide, by decide, by decide, by decide, by decide⟩
theorem cs4 : Cs 2 1 3 0 0 := ⟨by decide, by decide, by decide, by decide, by decide, by decide, by decide, by decide, by decide, by decide, by decide, by decide⟩
theorem cs5 : Cs 2 2 2 0 0 := ⟨by decide, by decide, by decide, by decide, by decide, by decide, by decide, by decide, by decide, by decide, by decide, by decide⟩
theorem cs6 : Cs 3 2 1 0 1 := ⟨by decide, by decide, by decide, by decide, by decide, by decide, by decide, by decide, by decide, by decide, by decide, by decide⟩
theorem cs7 : Cs 3 1 2 0 1 := ⟨by decide, by decide, by decide, by decide, by decide, by decide, by decide, by decide, by decide, by decide, by decide, by decide⟩
/-- a lap's polynomial -/
structure Gc (d k l a b : Nat) (g : List Rat) : Prop where
  T : Cs d k l a b
  P : PL d g
  X : Pq a b g
theorem Gc.q (G : Gc d k l a b g) (h : i ≤ k + l) : Pq (sA a d i) (sB b d i) (rp g i) := rp_q G.P G.X G.T.c1 i h
theorem Gc.lenk (G : Gc d k l a b g) (i : Nat) : (rp g i).length = d ^ i + 1 := rp_len G.P i
theorem Gc.le28 (G : Gc d k l a b g) (h : i ≤ k + l) : (rp g i).length ≤ 28 := by
  rw [G.lenk]
  have := Nat.pow_le_pow_right (n := d) (by have := G.P.n0; omega) h
  have := G.T.n27
  omega
theorem Gc.cand (G : Gc d k l a b g) : DE.cand (rp g (k + l)) (d ^ l) (d ^ k) = nrm (rp g l) ∧ flB (rp g (k + l)) (nrm (rp g l)) = true ∧ ou (rp g (k + l)) (nrm (rp g l)) = compP (rp g k) [co (rp g l) 0, co (rp g l) (d ^ l)] := by
  obtain ⟨Pl, _⟩ := rp_pl G.P l
  obtain ⟨Pk, _⟩ := rp_pl G.P k
  have N := nrm_nm Pl
  have H : Dh (d ^ l) (nrm (rp g l)) := ⟨N.len, Pl.n0, by rw [N.one]; decide⟩
  have hv := rp_vl g k l
  have hv2 : ∀ x, vl (rp g (k + l)) x = vl (compP (rp g k) [co (rp g l) 0, co (rp g l) (d ^ l)]) (vl (nrm (rp g l)) x) := fun x => by
    rw [vl_comp, hv, vl_nrm Pl, vl_cons, vl_cons, vl_nil]
    congr 1
    grind
  refine ⟨?_, (flB_iff H (rp_tr g _)).mpr ((fl_iff H (rp_tr g _)).mpr ⟨_, hv2⟩), ou_eq H (rp_tr g _) (compP_tr _) hv2⟩
  obtain ⟨q', hq⟩ : ∃ q', d ^ k = q' + 1 := ⟨d ^ k - 1, by have := Pk.n0; omega⟩
  have e : d ^ l * (q' + 1) = d ^ (k + l) := by rw [← hq, ← Nat.pow_add, Nat.add_comm]
  have dl : Dg (d ^ l) (vl (rp g l)) := dg_vl (by rw [Pl.len]; exact Nat.le_refl _)
  obtain ⟨R', d', v'⟩ := top_low dl q' (by rw [← hq]; exact Pk.len)
  obtain ⟨_, _, h⟩ := cand_vl (rp_tr g (k + l)) Pl.n0 e Pl (L := co (rp g k) (q' + 1)) (by rw [← hq]; exact Pk.nz) d' fun x => by rw [hv, v']
  rw [hq, h]
theorem Gc.zr (G : Gc d k l a b g) : Zr (d ^ l) (rp g (k + l)) (nrm (rp g l)) := by
  obtain ⟨Pl, _⟩ := rp_pl G.P l
  obtain ⟨Pn, _⟩ := rp_pl G.P (k + l)
  have N := nrm_nm Pl
  have H : Dh (d ^ l) (nrm (rp g l)) := ⟨N.len, Pl.n0, by rw [N.one]; decide⟩
  obtain ⟨z1, z2, z3, z4, z5⟩ := G.T.zr
  have n27 := G.T.n27
  obtain ⟨D, M, D0, I, hD, hM⟩ := G.q (i := k + l) (Nat.le_refl _)
  obtain ⟨E, N', E0, J, hE, hN⟩ := (G.q (i := l) (by omega)).nrm Pl
  have hT : Iw E E (co (nrm (rp g l)) (d ^ l)) := by
    rw [N.one]
    have : Iw 1 1 (1 : Rat) := ⟨1, by decide +kernel, by decide⟩
    have h2 := this.scale E
    rwa [Nat.one_mul] at h2
  have lf := Pn.len
  have ll := G.le28 (i := l) (by omega)
  rw [G.lenk] at ll
  have Z : Zh (d ^ l) (d ^ (k + l) + 1 - d ^ l) (d ^ (k + l) / d ^ l + 1) (sA a d (k + l)) (sB b d (k + l)) (sB b d l * (d ^ (k + l) + 1 - d ^ l + 1)) ((sB b d l + 1) * (d ^ (k + l) + 1 - d ^ l + 1) + sB b d l) (rp g (k + l)) (nrm (rp g l)) D M E N' E := by
    refine ⟨H, rp_tr g _, D0, I, E0, J, hT, by rw [lf]; exact z1, by rw [lf]; exact z2, hD, hM, ?_, ?_, z3, z4, lt2 hE z5, lt2 hN (by omega)⟩
    · rw [Nat.pow_mul]; exact Nat.pow_le_pow_left hE _
    · have h1 : E + N' ≤ 2 ^ (sB b d l + 1) := two_add_le hE hN (by omega) (by omega)
      refine two_mul_le ?_ hE
      rw [Nat.pow_mul]; exact Nat.pow_le_pow_left h1 _
  exact ⟨H, rp_tr g _, by omega, by rw [N.len]; omega, Z.sz⟩
theorem Gc.pk (G : Gc d k l a b g) : Pk (d ^ l) (d ^ k) (rp g (k + l)) (nrm (rp g l)) := by
  obtain ⟨Pl, _⟩ := rp_pl G.P l
  obtain ⟨Pk_, _⟩ := rp_pl G.P k
  obtain ⟨Pn, _⟩ := rp_pl G.P (k + l)
  obtain ⟨D, M, I, hD, hM⟩ := pq_pi (G.q (i := k + l) (Nat.le_refl _))
  obtain ⟨s1, s2, _⟩ := G.T.sa
  have pf := pf_of Pn.len Pn.n0 G.T.n27 Pn.nz I (lt2 hD s1) (lt2 hM s2)
  refine ⟨Pl.n0, Pk_.n0, ?_, G.cand.1, G.zr⟩
  have e : d ^ l * d ^ k = d ^ (k + l) := by rw [← Nat.pow_add, Nat.add_comm]
  rw [e]; exact pf
end
end K48

set_option Elab.async false
set_option linter.all false
set_option maxRecDepth 100000
set_option maxHeartbeats 4000000
set_option exponentiation.threshold 200000
set_option autoImplicit false
namespace K48
open PySem DE
open L2 (ixN)

def a0_ : Stm := .par [3, 4] [.bin .add (.int 1) (.call 36 [.var 1, .ix (.lst [.int 4, .int 7, .int 12, .int 20, .int 40, .int 60]) (.var 2)]), .call 37 [.var 1, .lst [.int 5, .int 40, .int 1000]]]
def a1_ : Stm := .asg 5 (.call 45 [.var 1, .var 4, .var 4])
def a2_ : Stm := .asg 5 (.ite (.cmp .ne (.ix (.var 5) (.int 0)) (.int 0)) (.var 5) (.tup [.neg (.int 1), .int 2]))
def a3_ : Stm := .asg 6 (.call 6 [.var 5, .var 3])
def a4_ : Stm := .ifS (.cmp .ne (.blt .repr [.var 6]) (.blt .repr [.tup [.call 48 [.ix (.var 5) (.int 0), .var 3], .call 48 [.ix (.var 5) (.int 1), .var 3]]])) [.ret (.bl false)] []
def a5_ : Stm := .asg 7 (.call 37 [.var 1, .lst [.tup [.bin .add (.ix (.var 6) (.int 0)) (.int 1), .ix (.var 6) (.int 1)], .tup [.bin .sub (.int 0) (.ix (.var 6) (.int 0)), .ix (.var 6) (.int 1)], .tup [.ix (.var 6) (.int 1), .ix (.var 6) (.int 0)], .tup [.int 2, .int 1]]])
def a6_ : Stm := .asg 7 (.ite (.cmp .ne (.ix (.var 7) (.int 0)) (.int 0)) (.call 38 [.ix (.var 7) (.int 0), .ix (.var 7) (.int 1)]) (.tup [.int 1, .int 1]))
def a7_ : Stm := .forS (.name 8) (.seq (.tup [.var 6, .var 7, .var 5])) [.ifS (.cmp .ne (.blt .repr [.call 34 [.var 8, .var 3]]) (.blt .repr [.call 50 [.var 8, .var 3]])) [.ret (.bl false)] []]
def a8_ : Stm := .ifS (.cmp .nmem (.var 5) (.call 34 [.var 6, .var 3])) [.ret (.bl false)] []
def b0_ : Stm := .asgT (.tup [.name 9, .name 10]) (.tup [.bin .add (.int 2) (.call 36 [.var 1, .int 9]), .bin .add (.int 2) (.call 36 [.var 1, .int 3])])
def b1_ : Stm := .asg 11 (.call 37 [.var 1, .lst [.call 48 [.var 9, .var 10], .bin .add (.int 1) (.call 36 [.var 1, .int 200])]])
def b2_ : Stm := .ifS (.cmp .ne (.blt .repr [.call 32 [.var 11, .var 10]]) (.blt .repr [.call 51 [.var 11, .var 10]])) [.ret (.bl false)] []
def b3_ : Stm := .asg 12 (.blt .sum [.lc [22] (.name 22) (.rng [.var 10]) .yes (.call 48 [.var 9, .var 22])])
def b4_ : Stm := .ifS (.or (.cmp .ne (.blt .repr [.call 33 [.var 9, .var 10]]) (.blt .repr [.var 12])) (.cmp .ne (.bin .mul (.bin .sub (.var 9) (.int 1)) (.var 12)) (.bin .sub (.call 7 [.var 9, .var 10]) (.int 1)))) [.ret (.bl false)] []
def c0_ : Stm := .asg 13 (.lst [.lst [.tup [.int 2, .int 1, .int 2], .tup [.int 3, .int 1, .int 1], .tup [.int 2, .int 2, .int 1]], .lst [.tup [.int 2, .int 1, .int 3], .tup [.int 2, .int 2, .int 2]], .lst [.tup [.int 3, .int 2, .int 1], .tup [.int 3, .int 1, .int 2]]])
def c1_ : Stm := .asgT (.tup [.name 9, .name 10, .name 14]) (.call 37 [.var 1, .ix (.var 13) (.var 2)])
def c2_ : Stm := .asg 15 (.call 46 [.var 1, .var 9, .ix (.lst [.int 4, .int 1, .int 2]) (.var 2), .ix (.lst [.int 2, .int 1, .int 1]) (.var 2)])
def c3_ : Stm := .par [5, 16, 17] [.call 31 [.var 15, .var 10], .call 31 [.var 15, .var 14], .call 31 [.var 15, .bin .add (.var 10) (.var 14)]]
def c4_ : Stm := .ifS (.cmp .ne (.blt .repr [.lst [.var 5, .var 16, .var 17]]) (.blt .repr [.lst [.call 47 [.var 15, .var 10], .call 47 [.var 15, .var 14], .call 47 [.var 15, .bin .add (.var 10) (.var 14)]]])) [.ret (.bl false)] []
def c5_ : Stm := .ifS (.cmp .ne (.blt .repr [.lst [.call 19 [.var 5, .var 16], .call 19 [.var 16, .var 5]]]) (.blt .repr [.lst [.var 17, .var 17]])) [.ret (.bl false)] []
def c6_ : Stm := .ifS (.or (.cmp .ne (.blt .repr [.call 31 [.var 5, .var 14]]) (.blt .repr [.call 31 [.var 15, .bin .mul (.var 10) (.var 14)]])) (.cmp .ne (.call 31 [.var 15, .int 0]) (.tup [.tup [.int 0, .int 1], .tup [.int 1, .int 1]]))) [.ret (.bl false)] []
def c7_ : Stm := .par [12, 18] [.call 33 [.var 9, .var 10], .tup [.int 1, .int 1]]
def c8_ : Stm := .forS (.name 19) (.rng [.var 12]) [.asg 18 (.call 40 [.var 18, .ix (.var 15) (.neg (.int 1))])]
def c9_ : Stm := .ifS (.or (.cmp .ne (.ix (.var 5) (.neg (.int 1))) (.var 18)) (.cmp .ne (.call 11 [.var 5]) (.call 48 [.var 9, .var 10]))) [.ret (.bl false)] []
def c10_ : Stm := .asg 20 (.call 48 [.var 9, .var 14])
def c11_ : Stm := .ifS (.cmp .ne (.blt .repr [.call 30 [.var 17, .var 20]]) (.blt .repr [.ix (.call 21 [.var 16]) (.int 2)])) [.ret (.bl false)] []
def c12_ : Stm := .asg 21 (.call 29 [.var 17, .ix (.call 21 [.var 16]) (.int 2)])
def c13_ : Stm := .ifS (.cmp .ne (.blt .repr [.var 21]) (.blt .repr [.call 44 [.var 5, .call 41 [.lst [.ix (.var 16) (.int 0), .ix (.var 16) (.neg (.int 1))]]]])) [.ret (.bl false)] []
def fA : List Stm := [.ifS (.cmp .ne (.blt .repr [.call 34 [.var 8, .var 3]]) (.blt .repr [.call 50 [.var 8, .var 3]])) [.ret (.bl false)] []]
def fC : List Stm := [.asg 18 (.call 40 [.var 18, .ix (.var 15) (.neg (.int 1))])]
section
variable {k_ n m i j d k l e b a v t lp far : Nat} {c x s : Rat} {f g h r w u p : List Rat} {D M E N H : Nat} {S : Option Src} {p_ q_ : Int}
theorem cnt_ix (hl : lp < 6) : ∃ t : Nat, ixD (.list [.int 4, .int 7, .int 12, .int 20, .int 40, .int 60]) (.int (lp : Nat)) = some (.val (.int (t : Nat))) ∧ 1 ≤ t ∧ t ≤ 60 := by
  match lp, hl with
  | 0, _ => exact ⟨4, rfl, by decide, by decide⟩
  | 1, _ => exact ⟨7, rfl, by decide, by decide⟩
  | 2, _ => exact ⟨12, rfl, by decide, by decide⟩
  | 3, _ => exact ⟨20, rfl, by decide, by decide⟩
  | 4, _ => exact ⟨40, rfl, by decide, by decide⟩
  | 5, _ => exact ⟨60, rfl, by decide, by decide⟩
theorem nk_pow (n0 : 0 < n) (n60 : n ≤ 60) (h : m ≤ 1001) : Nk (m ^ n) n := ⟨n0, n60, Nat.pow_le_pow_left h n⟩
theorem nk_low (n0 : 0 < n) (n60 : n ≤ 60) (h : m ≤ 1001) : Nk m n := ⟨n0, n60, Nat.le_trans h (Nat.le_self_pow (by omega) 1001)⟩
theorem div_small' (hq : q_ ≠ 0) : (Rat.divInt p_ q_).num.natAbs ≤ p_.natAbs ∧ (Rat.divInt p_ q_).den ≤ q_.natAbs := by
  by_cases h : 0 < q_
  · obtain ⟨h1, h2⟩ := div_small (p := p_) h
    exact ⟨h1, by omega⟩
  · obtain ⟨h1, h2⟩ := div_small (p := -p_) (q := -q_) (by omega)
    rw [Rat.neg_divInt_neg] at h1 h2
    exact ⟨by omega, by omega⟩
/-- a drawn fraction and how often -/
structure Pn (n : Nat) (x : Rat) : Prop where
  n0 : 0 < n
  n60 : n ≤ 60
  x0 : x ≠ 0
  fr : Fr 1000 1000 x
theorem Pn.rc (P : Pn n x) : Rc n x := ⟨P.x0, nk_low P.n0 P.n60 (by have := P.fr.1; omega), nk_low P.n0 P.n60 (by have := P.fr.2; omega)⟩
theorem pow_ne0 (x0 : x ≠ 0) : ∀ n : Nat, x ^ n ≠ 0
  | 0 => by rw [Rat.pow_zero]; decide
  | n + 1 => by
    rw [Rat.pow_succ]
    exact fun z => (Rat.mul_eq_zero.mp z).elim (pow_ne0 x0 n) x0
theorem Pn.na (P : Pn n x) : (x ^ n).num.natAbs = x.num.natAbs ^ n := by rw [Rat.num_pow, Int.natAbs_pow]
theorem Pn.rcp (P : Pn n x) : Rc n (x ^ n) := ⟨pow_ne0 P.x0 n, by rw [P.na]; exact nk_pow P.n0 P.n60 (by have := P.fr.1; omega), by rw [Rat.den_pow]; exact nk_pow P.n0 P.n60 (by have := P.fr.2; omega)⟩
theorem Pn.q (P : Pn n x) : Fq 10 10 x := Fq.of (Nat.le_trans P.fr.1 (by decide)) (Nat.le_trans P.fr.2 (by decide))
theorem Pn.ht (P : Pn n x) : Hb 1900 (x ^ n) := (fq_pow P.q n).hb (by have := P.n60; omega) (by have := P.n60; omega)
theorem rep_dQ (h : Hb 1900 x) : blD .repr [dQ x] = some (.val (.str (dQ x).shown)) := shown (rp_dQ h) (nice_dQ x) (by decide) (by decide)
theorem b1001 (n60 : n ≤ 60) : 1001 ^ n < 2 ^ 700 := Nat.lt_of_le_of_lt (Nat.pow_le_pow_right (by decide) n60) (by decide +kernel)

theorem sta0 {x0 x3 x4 x5 x6 x7 x8 x9 x10 x11 x12 x13 x14 x15 x16 x17 x18 x19 x20 x21 : SV} {s_ : Src} (hs : Sk s_) (hl : lp < 6) : ∃ (n far : Nat) (s' : Src), (0 < n ∧ n ≤ 60 ∧ 0 < far ∧ far ≤ 1000) ∧ Sk s' ∧ 
    exS (mean tbl C (k_ + 12)) C FUEL a0_ ⟨[x0, .src, .val (.int (lp : Nat)), x3, x4, x5, x6, x7, x8, x9, x10, x11, x12, x13, x14, x15, x16, x17, x18, x19, x20, x21, .un], some s_⟩ = some (.nx, ⟨[x0, .src, .val (.int (lp : Nat)), .val (.int (n : Nat)), .val (.int (far : Nat)), x5, x6, x7, x8, x9, x10, x11, x12, x13, x14, x15, x16, x17, x18, x19, x20, x21, .un], some s'⟩) := by
  obtain ⟨z, ix, t1, t8⟩ := cnt_ix hl
  obtain ⟨r, s1, hr, h1, e1⟩ := v__law_pick (k := k_ + 11) hs (m := z) (by omega)
  have hr : r < z := by omega
  obtain ⟨d1, s2, g1, h2, e2⟩ := v__law_of (k := k_ + 10) h1 (ds := [.int 5, .int 40, .int 1000]) (by simp) (by simp)
  obtain ⟨far, rfl, f0, f1⟩ : ∃ far : Nat, d1 = .int (far : Nat) ∧ 0 < far ∧ far ≤ 1000 := by
    simp only [List.mem_cons, List.not_mem_nil, or_false] at g1
    rcases g1 with rfl | rfl | rfl
    · exact ⟨5, rfl, by decide, by decide⟩
    · exact ⟨40, rfl, by decide, by decide⟩
    · exact ⟨1000, rfl, by decide, by decide⟩
  have e1' : mean tbl C (k_ + 11 + 1) i__law_pick [.src, .val (.int z)] (some s_) = some (.val (.int r), some s1) := e1
  have e2' : mean tbl C (k_ + 10 + 2) i__law_of [.src, .val (.list [.int 5, .int 40, .int 1000])] (some s1) = some (.val (.int (far : Nat)), some s2) := e2
  refine ⟨1 + r, far, s2, ⟨by omega, by omega, f0, f1⟩, h2, ?_⟩
  have en : ((1 + r : Nat) : Int) = 1 + (r : Int) := by omega
  rw [en]
  clear e1 e2 g1
  generalize (r : Int) = r_ at *
  generalize (far : Int) = f_ at *
  simp -implicitDefEqProofs [a0_, ix, e1', e2']
theorem sta1 {x0 x2 x3 x5 x6 x7 x8 x9 x10 x11 x12 x13 x14 x15 x16 x17 x18 x19 x20 x21 : SV} {s_ : Src} (hs : Sk s_) (h0 : 0 < far) (h1 : far ≤ 1000) : ∃ (x : Rat) (s' : Src), Fr 1000 1000 x ∧ Sk s' ∧ 
    exS (mean tbl C (k_ + 12)) C FUEL a1_ ⟨[x0, .src, x2, x3, .val (.int (far : Nat)), x5, x6, x7, x8, x9, x10, x11, x12, x13, x14, x15, x16, x17, x18, x19, x20, x21, .un], some s_⟩ = some (.nx, ⟨[x0, .src, x2, x3, .val (.int (far : Nat)), .val (dQ x), x6, x7, x8, x9, x10, x11, x12, x13, x14, x15, x16, x17, x18, x19, x20, x21, .un], some s'⟩) := by
  obtain ⟨x, s1, hx, g1, e1⟩ := v__law_fraction (k := k_ + 10) hs (far := far) (bot := far) h1 h1 h0
  have e1' : mean tbl C (k_ + 10 + 2) i__law_fraction [.src, .val (.int far), .val (.int far)] (some s_) = some (.val (dQ x), some s1) := e1
  refine ⟨x, s1, ⟨Nat.le_trans hx.1 h1, Nat.le_trans hx.2 h1⟩, g1, ?_⟩
  clear e1
  generalize dQ x = d1 at *
  simp -implicitDefEqProofs [a1_, e1']
theorem sta2 {x0 x2 x3 x4 x6 x7 x8 x9 x10 x11 x12 x13 x14 x15 x16 x17 x18 x19 x20 x21 : SV} {S : Option Src} {y : Rat} (hx : Fr 1000 1000 y) : ∃ x : Rat, (x ≠ 0 ∧ Fr 1000 1000 x) ∧ 
    exS (mean tbl C (k_ + 12)) C FUEL a2_ ⟨[x0, .src, x2, x3, x4, .val (dQ y), x6, x7, x8, x9, x10, x11, x12, x13, x14, x15, x16, x17, x18, x19, x20, x21, .un], S⟩ = some (.nx, ⟨[x0, .src, x2, x3, x4, .val (dQ x), x6, x7, x8, x9, x10, x11, x12, x13, x14, x15, x16, x17, x18, x19, x20, x21, .un], S⟩) := by
  have z0 := dQ_num (x := y)
  by_cases h : y = 0
  · subst h
    have h1 : (Rat.divInt (-1) 2).num = -1 := by decide +kernel
    have h2 : (Rat.divInt (-1) 2).den = 2 := by decide +kernel
    refine ⟨Rat.divInt (-1) 2, ⟨by decide +kernel, by rw [h1]; decide, by rw [h2]; decide⟩, ?_⟩
    have e : dQ (Rat.divInt (-1) 2) = .tuple [.int (-1), .int 2] := by rw [dQ, h1, h2]; rfl
    have z0' : ixD (dQ 0) (.int 0) = some (.val (.int 0)) := rfl
    rw [e]
    generalize dQ 0 = d1 at *
    simp -implicitDefEqProofs [a2_, z0']
  · have hn := num_ne h
    refine ⟨y, ⟨h, hx⟩, ?_⟩
    generalize dQ y = d1 at *
    generalize y.num = yn at *
    simp -implicitDefEqProofs [a2_, z0, hn]
theorem sta3 {x0 x2 x4 x6 x7 x8 x9 x10 x11 x12 x13 x14 x15 x16 x17 x18 x19 x20 x21 : SV} {S : Option Src} (P : Pn n x) : 
    exS (mean tbl C (k_ + 12)) C FUEL a3_ ⟨[x0, .src, x2, .val (.int (n : Nat)), x4, .val (dQ x), x6, x7, x8, x9, x10, x11, x12, x13, x14, x15, x16, x17, x18, x19, x20, x21, .un], S⟩ = some (.nx, ⟨[x0, .src, x2, .val (.int (n : Nat)), x4, .val (dQ x), .val (dQ (x ^ n)), x7, x8, x9, x10, x11, x12, x13, x14, x15, x16, x17, x18, x19, x20, x21, .un], S⟩) := by
  have n60 := P.n60
  have v1 := v_fraction_power (k := k_ + 8) (S := S) (n := n) P.q (by omega) (by omega) (by omega)
  generalize dQ (x ^ n) = d1 at *
  generalize dQ x = d2 at *
  simp -implicitDefEqProofs [a3_, v1]
theorem sta4 {x0 x2 x4 x7 x8 x9 x10 x11 x12 x13 x14 x15 x16 x17 x18 x19 x20 x21 : SV} {S : Option Src} (P : Pn n x) : 
    exS (mean tbl C (k_ + 12)) C FUEL a4_ ⟨[x0, .src, x2, .val (.int (n : Nat)), x4, .val (dQ x), .val (dQ (x ^ n)), x7, x8, x9, x10, x11, x12, x13, x14, x15, x16, x17, x18, x19, x20, x21, .un], S⟩ = some (.nx, ⟨[x0, .src, x2, .val (.int (n : Nat)), x4, .val (dQ x), .val (dQ (x ^ n)), x7, x8, x9, x10, x11, x12, x13, x14, x15, x16, x17, x18, x19, x20, x21, .un], S⟩) := by
  have n60 := P.n60
  have v1 := v__law_number_power (k := k_ + 11) (S := S) (z := x.num) (n := n) (by have := P.fr.1; omega) (by omega)
  have v2 := lnp (k := k_ + 11) (S := S) (m := x.den) (n := n) (by have := P.fr.2; omega) (by omega)
  have e : PyData.tuple [.int (x.num ^ n), .int ((x.den ^ n : Nat) : Int)] = dQ (x ^ n) := by rw [← Rat.num_pow, ← Rat.den_pow]; rfl
  have rp := rep_dQ P.ht
  have z0 := dQ_num (x := x)
  have z1 := dQ_den (x := x)
  generalize dQ (x ^ n) = d1 at *
  generalize dQ x = d2 at *
  generalize ((x.den ^ n : Nat) : Int) = w2 at *
  generalize x.num ^ n = w1 at *
  generalize x.num = xn at *
  generalize ((x.den : Nat) : Int) = xd at *
  simp -implicitDefEqProofs [a4_, v1, v2, e, rp, z0, z1, str_ne]
theorem sta5 {x0 x2 x3 x4 x5 x7 x8 x9 x10 x11 x12 x13 x14 x15 x16 x17 x18 x19 x20 x21 : SV} {s_ : Src} (hs : Sk s_) (P : Pn n x) : ∃ (p_ q_ : Int) (s' : Src), (q_ ≠ 0 ∧ p_.natAbs ≤ 1001 ^ n ∧ q_.natAbs ≤ 1001 ^ n) ∧ Sk s' ∧ 
    exS (mean tbl C (k_ + 12)) C FUEL a5_ ⟨[x0, .src, x2, x3, x4, x5, .val (dQ (x ^ n)), x7, x8, x9, x10, x11, x12, x13, x14, x15, x16, x17, x18, x19, x20, x21, .un], some s_⟩ = some (.nx, ⟨[x0, .src, x2, x3, x4, x5, .val (dQ (x ^ n)), .val (.tuple [.int p_, .int q_]), x8, x9, x10, x11, x12, x13, x14, x15, x16, x17, x18, x19, x20, x21, .un], some s'⟩) := by
  have n0 := P.n0
  have R := P.rcp
  have na := P.na
  have k1 : x.num.natAbs ^ n + 1 ≤ 1001 ^ n := by
    have h1 := Nat.pow_le_pow_left P.fr.1 n
    have h2 : 1000 ^ n < 1001 ^ n := (pow_lt_iff P.n0).mpr (by decide)
    omega
  have k2 := R.K2.le
  have one1 : 2 ≤ 1001 ^ n := Nat.le_trans (by decide : 2 ≤ 1001) (Nat.le_self_pow (by omega) 1001)
  have nz := num_ne R.c0
  have dp := (x ^ n).den_pos
  have z0 := dQ_num (x := x ^ n)
  have z1 := dQ_den (x := x ^ n)
  obtain ⟨dd, s1, g1, h1, e1⟩ := v__law_of (k := k_ + 10) hs (ds := [.tuple [.int ((x ^ n).num + 1), .int (x ^ n).den], .tuple [.int (-(x ^ n).num), .int (x ^ n).den], .tuple [.int (x ^ n).den, .int (x ^ n).num], .tuple [.int 2, .int 1]]) (by simp) (by simp)
  have e1' : mean tbl C (k_ + 10 + 2) i__law_of [.src, .val (.list [.tuple [.int ((x ^ n).num + 1), .int (x ^ n).den], .tuple [.int (-(x ^ n).num), .int (x ^ n).den], .tuple [.int (x ^ n).den, .int (x ^ n).num], .tuple [.int 2, .int 1]])] (some s_) = some (.val dd, some s1) := e1
  have fin : ∀ p_ q_ : Int, (q_ ≠ 0 ∧ p_.natAbs ≤ 1001 ^ n ∧ q_.natAbs ≤ 1001 ^ n) → dd = .tuple [.int p_, .int q_] → ∃ (p_ q_ : Int), (q_ ≠ 0 ∧ p_.natAbs ≤ 1001 ^ n ∧ q_.natAbs ≤ 1001 ^ n) ∧ dd = .tuple [.int p_, .int q_] := fun p q h e => ⟨p, q, h, e⟩
  have key : ∃ (p_ q_ : Int), (q_ ≠ 0 ∧ p_.natAbs ≤ 1001 ^ n ∧ q_.natAbs ≤ 1001 ^ n) ∧ dd = .tuple [.int p_, .int q_] := by
    rw [← na] at k1
    simp only [List.mem_cons, List.not_mem_nil, or_false] at g1
    rcases g1 with e | e | e | e
    · exact fin _ _ ⟨by omega, by omega, by omega⟩ e
    · exact fin _ _ ⟨by omega, by omega, by omega⟩ e
    · exact fin _ _ ⟨nz, by omega, by omega⟩ e
    · exact fin _ _ ⟨by decide, by omega, by omega⟩ e
  obtain ⟨p_, q_, hh, rfl⟩ := key
  refine ⟨p_, q_, s1, hh, h1, ?_⟩
  clear e1 g1 fin hh k1 k2 na
  generalize dQ (x ^ n) = d1 at *
  generalize (x ^ n).num = xn at *
  generalize (((x ^ n).den : Nat) : Int) = xd at *
  simp -implicitDefEqProofs [a5_, z0, z1, e1']
theorem sta6 {x0 x2 x3 x4 x5 x6 x8 x9 x10 x11 x12 x13 x14 x15 x16 x17 x18 x19 x20 x21 : SV} {S : Option Src} (n0 : 0 < n) (n60 : n ≤ 60) (hh : q_ ≠ 0 ∧ p_.natAbs ≤ 1001 ^ n ∧ q_.natAbs ≤ 1001 ^ n) : ∃ c : Rat, Rc n c ∧ 
    exS (mean tbl C (k_ + 12)) C FUEL a6_ ⟨[x0, .src, x2, x3, x4, x5, x6, .val (.tuple [.int p_, .int q_]), x8, x9, x10, x11, x12, x13, x14, x15, x16, x17, x18, x19, x20, x21, .un], S⟩ = some (.nx, ⟨[x0, .src, x2, x3, x4, x5, x6, .val (dQ c), x8, x9, x10, x11, x12, x13, x14, x15, x16, x17, x18, x19, x20, x21, .un], S⟩) := by
  obtain ⟨q0, hp, hq⟩ := hh
  have i0 : ixD (.tuple [.int p_, .int q_]) (.int 0) = some (.val (.int p_)) := rfl
  have i1 : ixD (.tuple [.int p_, .int q_]) (.int 1) = some (.val (.int q_)) := rfl
  by_cases h : p_ = 0
  · refine ⟨1, ⟨by decide, nk_low n0 n60 (by decide), nk_low n0 n60 (by decide)⟩, ?_⟩
    have e : dQ 1 = .tuple [.int 1, .int 1] := rfl
    rw [e]
    subst h
    simp -implicitDefEqProofs [a6_, i0]
  · obtain ⟨s1, s2⟩ := div_small' (p_ := p_) q0
    have lw := v__law_low (k := k_ + 11) (S := S) (p := p_) (q := q_) q0 (Nat.lt_trans (bits_of_lt (n := 700) (Nat.lt_of_le_of_lt hq (b1001 n60)) (by decide)) (by decide))
    refine ⟨Rat.divInt p_ q_, ⟨fun z => h ?_, ⟨n0, n60, Nat.le_trans s1 hp⟩, ⟨n0, n60, Nat.le_trans s2 hq⟩⟩, ?_⟩
    · rw [Rat.divInt_eq_div, Rat.div_def] at z
      rcases Rat.mul_eq_zero.mp z with z | z
      · exact Rat.intCast_eq_zero_iff.mp z
      · have hi := Rat.inv_mul_cancel (q_ : Rat) (fun w => q0 (Rat.intCast_eq_zero_iff.mp w))
        rw [z, Rat.zero_mul] at hi
        exact absurd hi (by decide)
    · generalize dQ (Rat.divInt p_ q_) = dd at *
      simp -implicitDefEqProofs [a6_, i0, i1, h, lw]
theorem sta7 {x0 x2 x4 x8 x9 x10 x11 x12 x13 x14 x15 x16 x17 x18 x19 x20 x21 : SV} {S : Option Src} (P : Pn n x) (R : Rc n c) : ∃ y8 : SV, 
    exS (mean tbl C (k_ + 12)) C FUEL a7_ ⟨[x0, .src, x2, .val (.int (n : Nat)), x4, .val (dQ x), .val (dQ (x ^ n)), .val (dQ c), x8, x9, x10, x11, x12, x13, x14, x15, x16, x17, x18, x19, x20, x21, .un], S⟩ = some (.nx, ⟨[x0, .src, x2, .val (.int (n : Nat)), x4, .val (dQ x), .val (dQ (x ^ n)), .val (dQ c), y8, x9, x10, x11, x12, x13, x14, x15, x16, x17, x18, x19, x20, x21, .un], S⟩) := by
  have h1 : ∃ st', forF (.name 8) (exB (mean tbl C (k_ + 12)) C FUEL fA) ([x ^ n, c, x].map dQ) ⟨[x0, .src, x2, .val (.int (n : Nat)), x4, .val (dQ x), .val (dQ (x ^ n)), .val (dQ c), x8, x9, x10, x11, x12, x13, x14, x15, x16, x17, x18, x19, x20, x21, .un], S⟩ = some (.nx, st') ∧ ∃ y8, st' = ⟨[x0, .src, x2, .val (.int (n : Nat)), x4, .val (dQ x), .val (dQ (x ^ n)), .val (dQ c), y8, x9, x10, x11, x12, x13, x14, x15, x16, x17, x18, x19, x20, x21, .un], S⟩ :=
    for_inv (tg := .name 8) (ψ := exB (mean tbl C (k_ + 12)) C FUEL fA) dQ (fun (_ : Unit) st' => ∃ y8, st' = ⟨[x0, .src, x2, .val (.int (n : Nat)), x4, .val (dQ x), .val (dQ (x ^ n)), .val (dQ c), y8, x9, x10, x11, x12, x13, x14, x15, x16, x17, x18, x19, x20, x21, .un], S⟩) (fun _ _ => ()) [x ^ n, c, x] () ⟨[x0, .src, x2, .val (.int (n : Nat)), x4, .val (dQ x), .val (dQ (x ^ n)), .val (dQ c), x8, x9, x10, x11, x12, x13, x14, x15, x16, x17, x18, x19, x20, x21, .un], S⟩ ⟨_, rfl⟩ (by
      rintro z hz _ st ⟨y8, rfl⟩
      have Rz : Rc n z := by
        simp only [List.mem_cons, List.not_mem_nil, or_false] at hz
        rcases hz with rfl | rfl | rfl
        · exact P.rcp
        · exact R
        · exact P.rc
      obtain ⟨r1, B1⟩ := br_ex Rz.K1
      obtain ⟨r2, B2⟩ := br_ex Rz.K2
      have v1 := v_roots_of (k := k_ + 8) (S := S) Rz B1 B2
      have v2 := v__law_roots (k := k_ + 9) (S := S) Rz B1 B2
      have rp := rep_rts (c := z) (n := n) B1.1 B2.1
      refine ⟨_, ⟨[x0, .src, x2, .val (.int (n : Nat)), x4, .val (dQ x), .val (dQ (x ^ n)), .val (dQ c), .val (dQ z), x9, x10, x11, x12, x13, x14, x15, x16, x17, x18, x19, x20, x21, .un], S⟩, rfl, ?_, _, rfl⟩
      simp only [fA]
      clear hz
      generalize rtsD z n r1 r2 = d1 at *
      generalize dQ z = d2 at *
      generalize dQ (x ^ n) = d3 at *
      generalize dQ c = d4 at *
      generalize dQ x = d5 at *
      simp -implicitDefEqProofs [v1, v2, rp, str_ne])
  obtain ⟨st', h2, y8, rfl⟩ := h1
  refine ⟨y8, ?_⟩
  have e : [x ^ n, c, x].map dQ = [dQ (x ^ n), dQ c, dQ x] := rfl
  rw [e] at h2
  simp only [fA] at h2
  generalize dQ (x ^ n) = d3 at *
  generalize dQ c = d4 at *
  generalize dQ x = d5 at *
  simp -implicitDefEqProofs [a7_, h2]
theorem sta8 {x0 x2 x4 x7 x8 x9 x10 x11 x12 x13 x14 x15 x16 x17 x18 x19 x20 x21 : SV} {S : Option Src} (P : Pn n x) : 
    exS (mean tbl C (k_ + 12)) C FUEL a8_ ⟨[x0, .src, x2, .val (.int (n : Nat)), x4, .val (dQ x), .val (dQ (x ^ n)), x7, x8, x9, x10, x11, x12, x13, x14, x15, x16, x17, x18, x19, x20, x21, .un], S⟩ = some (.nx, ⟨[x0, .src, x2, .val (.int (n : Nat)), x4, .val (dQ x), .val (dQ (x ^ n)), x7, x8, x9, x10, x11, x12, x13, x14, x15, x16, x17, x18, x19, x20, x21, .un], S⟩) := by
  obtain ⟨ds, e, hm, hn⟩ := in_rts (n := n) (by omega) P.x0
  have B1 : Br (x ^ n).num.natAbs n x.num.natAbs := by rw [P.na]; exact Br.of P.n0 (by have := P.fr.1; omega)
  have B2 : Br (x ^ n).den n x.den := by rw [Rat.den_pow]; exact Br.of P.n0 (by have := P.fr.2; omega)
  have v1 := v_roots_of (k := k_ + 8) (S := S) P.rcp B1 B2
  rw [e] at v1
  have q1 := nmem_rts hm hn
  clear hm hn e
  generalize dQ (x ^ n) = d1 at *
  generalize dQ x = d2 at *
  simp -implicitDefEqProofs [a8_, v1, q1]
theorem stb0 {x0 x2 x3 x4 x5 x6 x7 x8 x9 x10 x11 x12 x13 x14 x15 x16 x17 x18 x19 x20 x21 : SV} {s_ : Src} (hs : Sk s_)  : ∃ (d k : Nat) (s' : Src), (2 ≤ d ∧ d ≤ 10 ∧ 2 ≤ k ∧ k ≤ 4) ∧ Sk s' ∧ 
    exS (mean tbl C (k_ + 12)) C FUEL b0_ ⟨[x0, .src, x2, x3, x4, x5, x6, x7, x8, x9, x10, x11, x12, x13, x14, x15, x16, x17, x18, x19, x20, x21, .un], some s_⟩ = some (.nx, ⟨[x0, .src, x2, x3, x4, x5, x6, x7, x8, .val (.int (d : Nat)), .val (.int (k : Nat)), x11, x12, x13, x14, x15, x16, x17, x18, x19, x20, x21, .un], some s'⟩) := by
  obtain ⟨r, s1, hr, h1, e1⟩ := v__law_pick (k := k_ + 11) hs (m := 9) (by decide)
  have hr : r < 9 := hr
  obtain ⟨r2, s2, hr2, h2, e2⟩ := v__law_pick (k := k_ + 11) h1 (m := 3) (by decide)
  have hr2 : r2 < 3 := hr2
  have e1' : mean tbl C (k_ + 11 + 1) i__law_pick [.src, .val (.int 9)] (some s_) = some (.val (.int r), some s1) := e1
  have e2' : mean tbl C (k_ + 11 + 1) i__law_pick [.src, .val (.int 3)] (some s1) = some (.val (.int r2), some s2) := e2
  refine ⟨2 + r, 2 + r2, s2, ⟨by omega, by omega, by omega, by omega⟩, h2, ?_⟩
  have en : ((2 + r : Nat) : Int) = 2 + (r : Int) := by omega
  have en2 : ((2 + r2 : Nat) : Int) = 2 + (r2 : Int) := by omega
  rw [en, en2]
  clear e1 e2
  generalize (r : Int) = r_ at *
  generalize (r2 : Int) = r2_ at *
  simp -implicitDefEqProofs [b0_, e1', e2']
theorem stb1 {x0 x2 x3 x4 x5 x6 x7 x8 x11 x12 x13 x14 x15 x16 x17 x18 x19 x20 x21 : SV} {s_ : Src} (hs : Sk s_) (hd : 2 ≤ d ∧ d ≤ 10 ∧ 2 ≤ k ∧ k ≤ 4) : ∃ (n : Nat) (s' : Src), (1 ≤ n ∧ n ≤ 10000) ∧ Sk s' ∧ 
    exS (mean tbl C (k_ + 12)) C FUEL b1_ ⟨[x0, .src, x2, x3, x4, x5, x6, x7, x8, .val (.int (d : Nat)), .val (.int (k : Nat)), x11, x12, x13, x14, x15, x16, x17, x18, x19, x20, x21, .un], some s_⟩ = some (.nx, ⟨[x0, .src, x2, x3, x4, x5, x6, x7, x8, .val (.int (d : Nat)), .val (.int (k : Nat)), .val (.int (n : Nat)), x12, x13, x14, x15, x16, x17, x18, x19, x20, x21, .un], some s'⟩) := by
  obtain ⟨d2, d10, k2, k4⟩ := hd
  have v1 := lnp (k := k_ + 11) (S := some s_) (m := d) (n := k) (by omega) (by omega)
  have pk : 1 ≤ d ^ k ∧ d ^ k ≤ 10000 := ⟨Nat.pow_pos (by omega), Nat.le_trans (Nat.pow_le_pow_left d10 k) (Nat.le_trans (Nat.pow_le_pow_right (by decide) k4) (by decide))⟩
  obtain ⟨r, s1, hr, h1, e1⟩ := v__law_pick (k := k_ + 11) hs (m := 200) (by decide)
  have hr : r < 200 := hr
  have e1' : mean tbl C (k_ + 11 + 1) i__law_pick [.src, .val (.int 200)] (some s_) = some (.val (.int r), some s1) := e1
  obtain ⟨dd, s2, g1, h2, e2⟩ := v__law_of (k := k_ + 10) h1 (ds := [.int ((d ^ k : Nat) : Int), .int (1 + (r : Int))]) (by simp) (by simp)
  have e2' : mean tbl C (k_ + 10 + 2) i__law_of [.src, .val (.list [.int ((d ^ k : Nat) : Int), .int (1 + (r : Int))])] (some s1) = some (.val dd, some s2) := e2
  obtain ⟨n, rfl, n1, n2⟩ : ∃ n : Nat, dd = .int (n : Nat) ∧ 1 ≤ n ∧ n ≤ 10000 := by
    simp only [List.mem_cons, List.not_mem_nil, or_false] at g1
    rcases g1 with rfl | rfl
    · exact ⟨d ^ k, rfl, pk.1, pk.2⟩
    · exact ⟨1 + r, by congr 1, by omega, by omega⟩
  refine ⟨n, s2, ⟨n1, n2⟩, h2, ?_⟩
  clear e1 e2 g1
  generalize ((d ^ k : Nat) : Int) = w at *
  generalize (r : Int) = r_ at *
  generalize (n : Int) = n_ at *
  simp -implicitDefEqProofs [b1_, v1, e1', e2']
theorem stb2 {x0 x2 x3 x4 x5 x6 x7 x8 x9 x12 x13 x14 x15 x16 x17 x18 x19 x20 x21 : SV} {S : Option Src} (hd : 2 ≤ d ∧ d ≤ 10 ∧ 2 ≤ k ∧ k ≤ 4) (hn : 1 ≤ n ∧ n ≤ 10000) : 
    exS (mean tbl C (k_ + 12)) C FUEL b2_ ⟨[x0, .src, x2, x3, x4, x5, x6, x7, x8, x9, .val (.int (k : Nat)), .val (.int (n : Nat)), x12, x13, x14, x15, x16, x17, x18, x19, x20, x21, .un], S⟩ = some (.nx, ⟨[x0, .src, x2, x3, x4, x5, x6, x7, x8, x9, .val (.int (k : Nat)), .val (.int (n : Nat)), x12, x13, x14, x15, x16, x17, x18, x19, x20, x21, .un], S⟩) := by
  have v1 := v_repeat_degree (i := k_ + 10) (S := S) (n := n) (k := k) (by omega) hn.1 (by omega)
  have v2 := v__law_degree_root (i := k_ + 10) (S := S) (n := n) (k := k) (by omega) hn.1 (by omega)
  have rp : blD .repr [dgD n k] = some (.val (.str (dgD n k).shown)) := by
    unfold dgD
    cases e : (ddL n).find? (fun d => decide (d ^ k = n)) with
    | none => exact rep_none
    | some d' =>
      have hm := List.mem_of_find?_eq_some e
      obtain ⟨j, hj, rfl⟩ := List.mem_map.mp hm
      have := List.mem_range.mp hj
      exact shown (n := 700) (h := 0) (rp_int (by rw [Int.natAbs_natCast]; exact Nat.lt_of_le_of_lt (by omega : 2 + j ≤ 20000) (by decide +kernel))) (nice_int _) (by decide) (by decide)
  generalize dgD n k = d1 at *
  simp -implicitDefEqProofs [b2_, v1, v2, rp, str_ne]
theorem stb3 {x0 x2 x3 x4 x5 x6 x7 x8 x11 x12 x13 x14 x15 x16 x17 x18 x19 x20 x21 : SV} {S : Option Src} (hd : 2 ≤ d ∧ d ≤ 10 ∧ 2 ≤ k ∧ k ≤ 4) : 
    exS (mean tbl C (k_ + 12)) C FUEL b3_ ⟨[x0, .src, x2, x3, x4, x5, x6, x7, x8, .val (.int (d : Nat)), .val (.int (k : Nat)), x11, x12, x13, x14, x15, x16, x17, x18, x19, x20, x21, .un], S⟩ = some (.nx, ⟨[x0, .src, x2, x3, x4, x5, x6, x7, x8, .val (.int (d : Nat)), .val (.int (k : Nat)), x11, .val (.int (rcN d k)), x13, x14, x15, x16, x17, x18, x19, x20, x21, .un], S⟩) := by
  have lc : lcLoop [22] (.name 22) (fT (ev (mean tbl C (k_ + 12)) C .yes)) (fV (ev (mean tbl C (k_ + 12)) C (.call 48 [.var 9, .var 22]))) ((List.range k).map fun i => .int (i : Nat)) [] ⟨[x0, .src, x2, x3, x4, x5, x6, x7, x8, .val (.int (d : Nat)), .val (.int (k : Nat)), x11, x12, x13, x14, x15, x16, x17, x18, x19, x20, x21, .un], S⟩ = some (((List.range k).map fun i => ((d ^ i : Nat) : Int)).map PyData.int, ⟨[x0, .src, x2, x3, x4, x5, x6, x7, x8, .val (.int (d : Nat)), .val (.int (k : Nat)), x11, x12, x13, x14, x15, x16, x17, x18, x19, x20, x21, .un], S⟩) := by
    rw [List.map_map]
    refine lc_mapG0 _ _ yes_true _ (fun j hj => ⟨[x0, .src, x2, x3, x4, x5, x6, x7, x8, .val (.int (d : Nat)), .val (.int (k : Nat)), x11, x12, x13, x14, x15, x16, x17, x18, x19, x20, x21, .val (.int (j : Nat))], [x0, .src, x2, x3, x4, x5, x6, x7, x8, .val (.int (d : Nat)), .val (.int (k : Nat)), x11, x12, x13, x14, x15, x16, x17, x18, x19, x20, x21, .val (.int (j : Nat))], rfl, ?_, rfl⟩) (by show _ ≤ 1000000; simp; omega)
    have hj := List.mem_range.mp hj
    have v := lnp (k := k_ + 11) (S := S) (m := d) (n := j) (by omega) (by omega)
    simp only [Function.comp]
    generalize ((d ^ j : Nat) : Int) = w at *
    simp -implicitDefEqProofs [v]
  have rg := rng_one' (n := k) (by omega)
  have sm := sum_ints ((List.range k).map fun i => ((d ^ i : Nat) : Int))
  unfold rcN
  generalize ((List.range k).map fun i => ((d ^ i : Nat) : Int)).sum = r at *
  generalize ((List.range k).map fun i => ((d ^ i : Nat) : Int)).map PyData.int = L at *
  generalize (List.range k).map (fun i => PyData.int (i : Nat)) = items at *
  simp -implicitDefEqProofs [b3_, rg, lc, sm]
theorem geo : ∀ d : Nat, d < 11 → ∀ k : Nat, k < 5 → ((d : Int) - 1) * rcN d k = ((d ^ k : Nat) : Int) - 1 ∧ (rcN d k).natAbs < 2 ^ 60 := by decide +kernel
theorem stb4 {x0 x2 x3 x4 x5 x6 x7 x8 x11 x13 x14 x15 x16 x17 x18 x19 x20 x21 : SV} {S : Option Src} (hd : 2 ≤ d ∧ d ≤ 10 ∧ 2 ≤ k ∧ k ≤ 4) : 
    exS (mean tbl C (k_ + 12)) C FUEL b4_ ⟨[x0, .src, x2, x3, x4, x5, x6, x7, x8, .val (.int (d : Nat)), .val (.int (k : Nat)), x11, .val (.int (rcN d k)), x13, x14, x15, x16, x17, x18, x19, x20, x21, .un], S⟩ = some (.nx, ⟨[x0, .src, x2, x3, x4, x5, x6, x7, x8, .val (.int (d : Nat)), .val (.int (k : Nat)), x11, .val (.int (rcN d k)), x13, x14, x15, x16, x17, x18, x19, x20, x21, .un], S⟩) := by
  obtain ⟨g1, g2⟩ := geo d (by omega) k (by omega)
  have v1 := v_repeat_count (i := k_ + 10) (S := S) (d := d) (k := k) (by omega) (by omega)
  have v2 := np (k := k_ + 11) (S := S) (m := d) (n := k) (by omega) (by omega)
  have rp : blD .repr [.int (rcN d k)] = some (.val (.str (PyData.int (rcN d k)).shown)) := shown (n := 700) (h := 0) (rp_int (Nat.lt_trans g2 (by decide +kernel))) (nice_int _) (by decide) (by decide)
  have mu : bopD .mul (.int ((d : Int) - 1)) (.int (rcN d k)) = some (.val (.int (((d ^ k : Nat) : Int) - 1))) := by
    rw [← g1]; exact mul_int (.inr (.inl (by omega)))
  clear g1 g2
  generalize rcN d k = r at *
  generalize ((d ^ k : Nat) : Int) = w at *
  simp -implicitDefEqProofs [b4_, v1, v2, rp, mu, str_ne]
def Ro (lp d k l : Nat) : Prop := (lp = 0 ∧ (d = 2 ∧ k = 1 ∧ l = 2 ∨ d = 3 ∧ k = 1 ∧ l = 1 ∨ d = 2 ∧ k = 2 ∧ l = 1)) ∨ (lp = 1 ∧ (d = 2 ∧ k = 1 ∧ l = 3 ∨ d = 2 ∧ k = 2 ∧ l = 2)) ∨ (lp = 2 ∧ (d = 3 ∧ k = 2 ∧ l = 1 ∨ d = 3 ∧ k = 1 ∧ l = 2))
theorem dr_pq {A B : Nat} (G : Dr A B n f) (D0 : 0 < D) (hd : ∀ q, 0 < q → q ≤ B → q ∣ D) (hD : D ≤ 2 ^ a) (hM : A * D ≤ 2 ^ b) : Pq a b f := ⟨D, A * D, D0, (pi_mem (D := D) (M := A * D) D0 fun x hx => iw_of (hd _ x.den_pos (G.fr x hx).2) (G.fr x hx).1).iw, hD, hM⟩
theorem stc0 {x0 x2 x3 x4 x5 x6 x7 x8 x9 x10 x11 x12 x13 x14 x15 x16 x17 x18 x19 x20 x21 : SV} {S : Option Src}  : 
    exS (mean tbl C (k_ + 12)) C FUEL c0_ ⟨[x0, .src, x2, x3, x4, x5, x6, x7, x8, x9, x10, x11, x12, x13, x14, x15, x16, x17, x18, x19, x20, x21, .un], S⟩ = some (.nx, ⟨[x0, .src, x2, x3, x4, x5, x6, x7, x8, x9, x10, x11, x12, .own [.list [.tuple [.int 2, .int 1, .int 2], .tuple [.int 3, .int 1, .int 1], .tuple [.int 2, .int 2, .int 1]], .list [.tuple [.int 2, .int 1, .int 3], .tuple [.int 2, .int 2, .int 2]], .list [.tuple [.int 3, .int 2, .int 1], .tuple [.int 3, .int 1, .int 2]]], x14, x15, x16, x17, x18, x19, x20, x21, .un], S⟩) := by
  simp -implicitDefEqProofs [c0_]
theorem stc1 {x0 x3 x4 x5 x6 x7 x8 x9 x10 x11 x12 x14 x15 x16 x17 x18 x19 x20 x21 : SV} {s_ : Src} (hs : Sk s_) (hl : lp < 3) : ∃ (d k l : Nat) (s' : Src), Ro lp d k l ∧ Sk s' ∧ 
    exS (mean tbl C (k_ + 12)) C FUEL c1_ ⟨[x0, .src, .val (.int (lp : Nat)), x3, x4, x5, x6, x7, x8, x9, x10, x11, x12, .own [.list [.tuple [.int 2, .int 1, .int 2], .tuple [.int 3, .int 1, .int 1], .tuple [.int 2, .int 2, .int 1]], .list [.tuple [.int 2, .int 1, .int 3], .tuple [.int 2, .int 2, .int 2]], .list [.tuple [.int 3, .int 2, .int 1], .tuple [.int 3, .int 1, .int 2]]], x14, x15, x16, x17, x18, x19, x20, x21, .un], some s_⟩ = some (.nx, ⟨[x0, .src, .val (.int (lp : Nat)), x3, x4, x5, x6, x7, x8, .val (.int (d : Nat)), .val (.int (k : Nat)), x11, x12, .own [.list [.tuple [.int 2, .int 1, .int 2], .tuple [.int 3, .int 1, .int 1], .tuple [.int 2, .int 2, .int 1]], .list [.tuple [.int 2, .int 1, .int 3], .tuple [.int 2, .int 2, .int 2]], .list [.tuple [.int 3, .int 2, .int 1], .tuple [.int 3, .int 1, .int 2]]], .val (.int (l : Nat)), x15, x16, x17, x18, x19, x20, x21, .un], some s'⟩) := by
  have key : ∃ ds : List PyData, ixD (.list [.list [.tuple [.int 2, .int 1, .int 2], .tuple [.int 3, .int 1, .int 1], .tuple [.int 2, .int 2, .int 1]], .list [.tuple [.int 2, .int 1, .int 3], .tuple [.int 2, .int 2, .int 2]], .list [.tuple [.int 3, .int 2, .int 1], .tuple [.int 3, .int 1, .int 2]]]) (.int (lp : Nat)) = some (.val (.list ds)) ∧ ds ≠ [] ∧ ds.length ≤ 1000 ∧ ∀ z ∈ ds, ∃ d k l : Nat, z = .tuple [.int (d : Nat), .int (k : Nat), .int (l : Nat)] ∧ Ro lp d k l := by
    match lp, hl with
    | 0, _ =>
      refine ⟨_, rfl, by simp, by simp, fun z hz => ?_⟩
      simp only [List.mem_cons, List.not_mem_nil, or_false] at hz
      rcases hz with rfl | rfl | rfl
      · exact ⟨2, 1, 2, rfl, by simp [Ro]⟩
      · exact ⟨3, 1, 1, rfl, by simp [Ro]⟩
      · exact ⟨2, 2, 1, rfl, by simp [Ro]⟩
    | 1, _ =>
      refine ⟨_, rfl, by simp, by simp, fun z hz => ?_⟩
      simp only [List.mem_cons, List.not_mem_nil, or_false] at hz
      rcases hz with rfl | rfl
      · exact ⟨2, 1, 3, rfl, by simp [Ro]⟩
      · exact ⟨2, 2, 2, rfl, by simp [Ro]⟩
    | 2, _ =>
      refine ⟨_, rfl, by simp, by simp, fun z hz => ?_⟩
      simp only [List.mem_cons, List.not_mem_nil, or_false] at hz
      rcases hz with rfl | rfl
      · exact ⟨3, 2, 1, rfl, by simp [Ro]⟩
      · exact ⟨3, 1, 2, rfl, by simp [Ro]⟩
  obtain ⟨ds, ix, n0, ll, hz⟩ := key
  obtain ⟨z, s1, g1, h1, e1⟩ := v__law_of (k := k_ + 10) hs n0 ll
  have e1' : mean tbl C (k_ + 10 + 2) i__law_of [.src, .val (.list ds)] (some s_) = some (.val z, some s1) := e1
  obtain ⟨d, k, l, rfl, R⟩ := hz z g1
  refine ⟨d, k, l, s1, R, h1, ?_⟩
  clear e1 hz g1
  generalize ([.list [.tuple [.int 2, .int 1, .int 2], .tuple [.int 3, .int 1, .int 1], .tuple [.int 2, .int 2, .int 1]], .list [.tuple [.int 2, .int 1, .int 3], .tuple [.int 2, .int 2, .int 2]], .list [.tuple [.int 3, .int 2, .int 1], .tuple [.int 3, .int 1, .int 2]]] : List PyData) = RW at *
  simp -implicitDefEqProofs [c1_, ix, e1']
theorem stc2 {x0 x3 x4 x5 x6 x7 x8 x10 x11 x12 x13 x14 x15 x16 x17 x18 x19 x20 x21 : SV} {s_ : Src} (hs : Sk s_) (R : Ro lp d k l) : ∃ (a b : Nat) (g : List Rat) (s' : Src), Gc d k l a b g ∧ Sk s' ∧ 
    exS (mean tbl C (k_ + 12)) C FUEL c2_ ⟨[x0, .src, .val (.int (lp : Nat)), x3, x4, x5, x6, x7, x8, .val (.int (d : Nat)), x10, x11, x12, x13, x14, x15, x16, x17, x18, x19, x20, x21, .un], some s_⟩ = some (.nx, ⟨[x0, .src, .val (.int (lp : Nat)), x3, x4, x5, x6, x7, x8, .val (.int (d : Nat)), x10, x11, x12, x13, x14, .val (dP g), x16, x17, x18, x19, x20, x21, .un], some s'⟩) := by
  have key : ∃ far bot a b : Nat, ixD (.list [.int 4, .int 1, .int 2]) (.int (lp : Nat)) = some (.val (.int (far : Nat))) ∧ ixD (.list [.int 2, .int 1, .int 1]) (.int (lp : Nat)) = some (.val (.int (bot : Nat))) ∧ Cs d k l a b ∧ 0 < d ∧ d ≤ 3 ∧ (0 < far ∧ far ≤ 4 ∧ 0 < bot ∧ bot ≤ 2) ∧ ∀ f : List Rat, Dr far bot d f → Pq a b f := by
    have dv1 : ∀ q, 0 < q → q ≤ 1 → q ∣ 1 := fun q h1 h2 => by
      have : q = 1 := by omega
      exact this ▸ Nat.dvd_refl 1
    have dv2 : ∀ q, 0 < q → q ≤ 2 → q ∣ 2 := fun q h1 h2 => by
      have : q = 1 ∨ q = 2 := by omega
      rcases this with h | h <;> rw [h] <;> decide
    rcases R with ⟨rfl, h⟩ | ⟨rfl, h⟩ | ⟨rfl, h⟩
    · rcases h with ⟨rfl, rfl, rfl⟩ | ⟨rfl, rfl, rfl⟩ | ⟨rfl, rfl, rfl⟩
      · exact ⟨4, 2, 1, 3, rfl, rfl, cs1, by decide, by decide, by decide, fun f G => dr_pq (D := 2) G (by decide) dv2 (by decide) (by decide)⟩
      · exact ⟨4, 2, 1, 3, rfl, rfl, cs2, by decide, by decide, by decide, fun f G => dr_pq (D := 2) G (by decide) dv2 (by decide) (by decide)⟩
      · exact ⟨4, 2, 1, 3, rfl, rfl, cs3, by decide, by decide, by decide, fun f G => dr_pq (D := 2) G (by decide) dv2 (by decide) (by decide)⟩
    · rcases h with ⟨rfl, rfl, rfl⟩ | ⟨rfl, rfl, rfl⟩
      · exact ⟨1, 1, 0, 0, rfl, rfl, cs4, by decide, by decide, by decide, fun f G => dr_pq (D := 1) G (by decide) dv1 (by decide) (by decide)⟩
      · exact ⟨1, 1, 0, 0, rfl, rfl, cs5, by decide, by decide, by decide, fun f G => dr_pq (D := 1) G (by decide) dv1 (by decide) (by decide)⟩
    · rcases h with ⟨rfl, rfl, rfl⟩ | ⟨rfl, rfl, rfl⟩
      · exact ⟨2, 1, 0, 1, rfl, rfl, cs6, by decide, by decide, by decide, fun f G => dr_pq (D := 1) G (by decide) dv1 (by decide) (by decide)⟩
      · exact ⟨2, 1, 0, 1, rfl, rfl, cs7, by decide, by decide, by decide, fun f G => dr_pq (D := 1) G (by decide) dv1 (by decide) (by decide)⟩
  obtain ⟨far, bot, a, b, i1, i2, T, d0, d3, ⟨f0, f4, b0, b2⟩, hq⟩ := key
  obtain ⟨g, s1, G, h1, e1⟩ := v__law_poly (k := k_ + 9) hs (far := far) (bot := bot) (n := d) (by omega) (by omega) b0 f0 (by omega)
  have e1' : mean tbl C (k_ + 9 + 3) i__law_poly [.src, .val (.int d), .val (.int far), .val (.int bot)] (some s_) = some (.val (dP g), some s1) := e1
  refine ⟨a, b, g, s1, ⟨T, ⟨G.len, d0, G.nz⟩, hq g G⟩, h1, ?_⟩
  clear e1 hq
  generalize dP g = d1 at *
  generalize (far : Int) = f_ at *
  generalize (bot : Int) = b_ at *
  simp -implicitDefEqProofs [c2_, i1, i2, e1']
theorem stc3 {x0 x2 x3 x4 x5 x6 x7 x8 x9 x11 x12 x13 x16 x17 x18 x19 x20 x21 : SV} {S : Option Src} (G : Gc d k l a b g) : 
    exS (mean tbl C (k_ + 12)) C FUEL c3_ ⟨[x0, .src, x2, x3, x4, x5, x6, x7, x8, x9, .val (.int (k : Nat)), x11, x12, x13, .val (.int (l : Nat)), .val (dP g), x16, x17, x18, x19, x20, x21, .un], S⟩ = some (.nx, ⟨[x0, .src, x2, x3, x4, .val (dP (rp g k)), x6, x7, x8, x9, .val (.int (k : Nat)), x11, x12, x13, .val (.int (l : Nat)), .val (dP g), .val (dP (rp g l)), .val (dP (rp g (k + l))), x18, x19, x20, x21, .un], S⟩) := by
  have h1 := v_repeated (k := k_ + 6) (S := S) (n := k) G.P G.X G.T.c1 (by omega) (by have := G.T.ex; omega)
  have h2 := v_repeated (k := k_ + 6) (S := S) (n := l) G.P G.X G.T.c1 (by omega) (by have := G.T.ex; omega)
  have h3 := v_repeated (k := k_ + 6) (S := S) (n := k + l) G.P G.X G.T.c1 (by omega) (by have := G.T.ex; omega)
  have ea : ((k + l : Nat) : Int) = (k : Int) + (l : Int) := by omega
  rw [ea] at h3
  generalize dP (rp g (k + l)) = d3 at *
  generalize dP (rp g k) = d1 at *
  generalize dP (rp g l) = d2 at *
  generalize dP g = d4 at *
  simp -implicitDefEqProofs [c3_, h1, h2, h3]
theorem rp_dP28 {f : List Rat} (h : ∀ x ∈ f, Hb 1900 x) (hl : f.length ≤ 28) : Rp 40000 2 (dP f) := rp_dP25 h hl
theorem Gc.hb (G : Gc d k l a b g) (h : i ≤ k + l) (ha : sA a d i < 80) (hb : sB b d i < 80) : ∀ x ∈ rp g i, Hb 1900 x := (G.q h).hb (by omega) (by omega)
theorem rep_l3 {f g h : List Rat} (h1 : ∀ x ∈ f, Hb 1900 x) (h2 : ∀ x ∈ g, Hb 1900 x) (h3 : ∀ x ∈ h, Hb 1900 x) (l1 : f.length ≤ 28) (l2 : g.length ≤ 28) (l3 : h.length ≤ 28) : blD .repr [.list [dP f, dP g, dP h]] = some (.val (.str (PyData.list [dP f, dP g, dP h]).shown)) := by
  refine shown (n := 150000) (h := 3) (rp_list (n := 40000) (fun d hd => ?_) (by simp)) (nice_list fun d hd => ?_) (by decide) (by decide)
  · simp only [List.mem_cons, List.not_mem_nil, or_false] at hd
    rcases hd with rfl | rfl | rfl
    · exact rp_dP28 h1 l1
    · exact rp_dP28 h2 l2
    · exact rp_dP28 h3 l3
  · simp only [List.mem_cons, List.not_mem_nil, or_false] at hd
    rcases hd with rfl | rfl | rfl <;> exact nice_dP _
theorem rep_l2 {f g : List Rat} (h1 : ∀ x ∈ f, Hb 1900 x) (h2 : ∀ x ∈ g, Hb 1900 x) (l1 : f.length ≤ 28) (l2 : g.length ≤ 28) : blD .repr [.list [dP f, dP g]] = some (.val (.str (PyData.list [dP f, dP g]).shown)) := by
  refine shown (n := 150000) (h := 3) (rp_list (n := 40000) (fun d hd => ?_) (by simp)) (nice_list fun d hd => ?_) (by decide) (by decide)
  · simp only [List.mem_cons, List.not_mem_nil, or_false] at hd
    rcases hd with rfl | rfl
    · exact rp_dP28 h1 l1
    · exact rp_dP28 h2 l2
  · simp only [List.mem_cons, List.not_mem_nil, or_false] at hd
    rcases hd with rfl | rfl <;> exact nice_dP _
theorem Gc.hbk (G : Gc d k l a b g) : ∀ x ∈ rp g k, Hb 1900 x := G.hb (by omega) G.T.sa.2.2.2.2.1 G.T.sa.2.2.2.2.2.1
theorem Gc.hbl (G : Gc d k l a b g) : ∀ x ∈ rp g l, Hb 1900 x := G.hb (by omega) G.T.sa.2.2.1 G.T.sa.2.2.2.1
theorem Gc.hbn (G : Gc d k l a b g) : ∀ x ∈ rp g (k + l), Hb 1900 x := G.hb (by omega) G.T.sa.1 G.T.sa.2.1
theorem Gc.wit1 (G : Gc d k l a b g) {K : Nat} : mean tbl C (K + 5) i_poly_within [.val (dP (rp g k)), .val (dP (rp g l))] S = some (.val (dP (rp g (k + l))), S) := by
  have := wc_v (k := K) (S := S) (G.q (i := k) (by omega)) (G.q (i := l) (by omega)) (by rw [G.lenk]; exact Nat.le_refl _) (by rw [G.lenk]; exact Nat.le_refl _) G.T.w1
  rwa [rp_add] at this
theorem Gc.wit2 (G : Gc d k l a b g) {K : Nat} : mean tbl C (K + 5) i_poly_within [.val (dP (rp g l)), .val (dP (rp g k))] S = some (.val (dP (rp g (k + l))), S) := by
  have := wc_v (k := K) (S := S) (G.q (i := l) (by omega)) (G.q (i := k) (by omega)) (by rw [G.lenk]; exact Nat.le_refl _) (by rw [G.lenk]; exact Nat.le_refl _) G.T.w2
  rwa [rp_add, Nat.add_comm l k] at this
theorem stc4 {x0 x2 x3 x4 x6 x7 x8 x9 x11 x12 x13 x18 x19 x20 x21 : SV} {S : Option Src} (G : Gc d k l a b g) : 
    exS (mean tbl C (k_ + 12)) C FUEL c4_ ⟨[x0, .src, x2, x3, x4, .val (dP (rp g k)), x6, x7, x8, x9, .val (.int (k : Nat)), x11, x12, x13, .val (.int (l : Nat)), .val (dP g), .val (dP (rp g l)), .val (dP (rp g (k + l))), x18, x19, x20, x21, .un], S⟩ = some (.nx, ⟨[x0, .src, x2, x3, x4, .val (dP (rp g k)), x6, x7, x8, x9, .val (.int (k : Nat)), x11, x12, x13, .val (.int (l : Nat)), .val (dP g), .val (dP (rp g l)), .val (dP (rp g (k + l))), x18, x19, x20, x21, .un], S⟩) := by
  have h1 := v__law_repeat (k := k_ + 7) (S := S) (n := k) G.P G.X G.T.c1 (by omega) (by have := G.T.ex; omega)
  have h2 := v__law_repeat (k := k_ + 7) (S := S) (n := l) G.P G.X G.T.c1 (by omega) (by have := G.T.ex; omega)
  have h3 := v__law_repeat (k := k_ + 7) (S := S) (n := k + l) G.P G.X G.T.c1 (by omega) (by have := G.T.ex; omega)
  have ea : ((k + l : Nat) : Int) = (k : Int) + (l : Int) := by omega
  rw [ea] at h3
  have rp_ := rep_l3 G.hbk G.hbl G.hbn (G.le28 (by omega)) (G.le28 (by omega)) (G.le28 (by omega))
  generalize dP (rp g (k + l)) = d3 at *
  generalize dP (rp g k) = d1 at *
  generalize dP (rp g l) = d2 at *
  generalize dP g = d4 at *
  simp -implicitDefEqProofs [c4_, h1, h2, h3, rp_, str_ne]
theorem stc5 {x0 x2 x3 x4 x6 x7 x8 x9 x10 x11 x12 x13 x14 x15 x18 x19 x20 x21 : SV} {S : Option Src} (G : Gc d k l a b g) : 
    exS (mean tbl C (k_ + 12)) C FUEL c5_ ⟨[x0, .src, x2, x3, x4, .val (dP (rp g k)), x6, x7, x8, x9, x10, x11, x12, x13, x14, x15, .val (dP (rp g l)), .val (dP (rp g (k + l))), x18, x19, x20, x21, .un], S⟩ = some (.nx, ⟨[x0, .src, x2, x3, x4, .val (dP (rp g k)), x6, x7, x8, x9, x10, x11, x12, x13, x14, x15, .val (dP (rp g l)), .val (dP (rp g (k + l))), x18, x19, x20, x21, .un], S⟩) := by
  have h1 := G.wit1 (K := k_ + 7) (S := S)
  have h2 := G.wit2 (K := k_ + 7) (S := S)
  have rp_ := rep_l2 G.hbn G.hbn (G.le28 (by omega)) (G.le28 (by omega))
  generalize dP (rp g (k + l)) = d3 at *
  generalize dP (rp g k) = d1 at *
  generalize dP (rp g l) = d2 at *
  simp -implicitDefEqProofs [c5_, h1, h2, rp_, str_ne]
theorem sA_mono {a d : Nat} (d0 : 0 < d) : ∀ {i j : Nat}, i ≤ j → sA a d i ≤ sA a d j := by
  have st : ∀ i, sA a d i ≤ sA a d (i + 1) := fun i => by
    match i with
    | 0 => exact Nat.zero_le _
    | i + 1 =>
      show sA a d (i + 1) ≤ a + sA a d (i + 1) * d
      have := Nat.le_mul_of_pos_right (sA a d (i + 1)) d0
      omega
  intro i j h
  induction h with
  | refl => exact Nat.le_refl _
  | step _ ih => exact Nat.le_trans ih (st _)
theorem sB_mono {b d : Nat} (d0 : 0 < d) : ∀ {i j : Nat}, i ≤ j → sB b d i ≤ sB b d j := by
  have st : ∀ i, sB b d i ≤ sB b d (i + 1) := fun i => by
    match i with
    | 0 => exact Nat.zero_le _
    | i + 1 =>
      show sB b d (i + 1) ≤ b + (sB b d (i + 1) + tt d (i + 1) + 1) * d
      have := Nat.le_mul_of_pos_right (sB b d (i + 1) + tt d (i + 1) + 1) d0
      omega
  intro i j h
  induction h with
  | refl => exact Nat.le_refl _
  | step _ ih => exact Nat.le_trans ih (st _)
theorem stc6 {x0 x2 x3 x4 x6 x7 x8 x9 x11 x12 x13 x16 x17 x18 x19 x20 x21 : SV} {S : Option Src} (G : Gc d k l a b g) : 
    exS (mean tbl C (k_ + 12)) C FUEL c6_ ⟨[x0, .src, x2, x3, x4, .val (dP (rp g k)), x6, x7, x8, x9, .val (.int (k : Nat)), x11, x12, x13, .val (.int (l : Nat)), .val (dP g), x16, x17, x18, x19, x20, x21, .un], S⟩ = some (.nx, ⟨[x0, .src, x2, x3, x4, .val (dP (rp g k)), x6, x7, x8, x9, .val (.int (k : Nat)), x11, x12, x13, .val (.int (l : Nat)), .val (dP g), x16, x17, x18, x19, x20, x21, .un], S⟩) := by
  obtain ⟨_, k1, l1, k3, l3, kl4⟩ := G.T.ex
  obtain ⟨Pk_, _⟩ := rp_pl G.P k
  have h1 := v_repeated (k := k_ + 6) (S := S) (n := l) Pk_ (G.q (i := k) (by omega)) G.T.c2 (Nat.le_refl _) (by omega)
  rw [rp_mul] at h1
  have h2 := v_repeated (k := k_ + 6) (S := S) (n := k * l) G.P G.X G.T.c1 G.T.kl (by omega)
  have h3 := v_repeated (k := k_ + 6) (S := S) (n := 0) G.P G.X G.T.c1 (by omega) (by omega)
  have h3' : mean tbl C (k_ + 6 + 6) i_repeated [.val (dP g), .val (.int 0)] S = some (.val (dP [0, 1]), S) := h3
  have mu : bopD .mul (.int (k : Int)) (.int (l : Int)) = some (.val (.int ((k * l : Nat) : Int))) := by
    rw [Int.natCast_mul]; exact mul_int (.inr (.inr (by rw [Int.natAbs_natCast]; omega)))
  have hkl : k * l ≤ k + l := G.T.kl
  have le := G.le28 (i := k * l) hkl
  have rq : ∀ x ∈ rp g (k * l), Hb 1900 x := by
    have W : ∀ i, i ≤ k + l → sA a d i < 1900 ∧ sB b d i < 1900 := fun i hi => by
      have h := G.T.sa
      have m : sA a d i ≤ sA a d (k + l) ∧ sB b d i ≤ sB b d (k + l) := ⟨sA_mono (by have := G.P.n0; omega) hi, sB_mono (by have := G.P.n0; omega) hi⟩
      omega
    exact (G.q hkl).hb (W _ hkl).1 (W _ hkl).2
  have rp_ := rep_dP rq le
  have e0 : PyData.tuple [.tuple [.int 0, .int 1], .tuple [.int 1, .int 1]] = dP [0, 1] := rfl
  have q1 : copD .ne (dP [0, 1]) (dP [0, 1]) = some (.val (.bool false)) := by rw [ne_dP]; simp
  clear h3
  generalize dP (rp g (k * l)) = d3 at *
  generalize dP (rp g k) = d1 at *
  generalize dP [0, 1] = d2 at *
  generalize dP g = d4 at *
  generalize ((k * l : Nat) : Int) = z at *
  simp -implicitDefEqProofs [c6_, h1, h2, h3', mu, rp_, e0, q1, str_ne]
theorem stc7 {x0 x2 x3 x4 x5 x6 x7 x8 x11 x12 x13 x14 x15 x16 x17 x18 x19 x20 x21 : SV} {S : Option Src} (G : Gc d k l a b g) : 
    exS (mean tbl C (k_ + 12)) C FUEL c7_ ⟨[x0, .src, x2, x3, x4, x5, x6, x7, x8, .val (.int (d : Nat)), .val (.int (k : Nat)), x11, x12, x13, x14, x15, x16, x17, x18, x19, x20, x21, .un], S⟩ = some (.nx, ⟨[x0, .src, x2, x3, x4, x5, x6, x7, x8, .val (.int (d : Nat)), .val (.int (k : Nat)), x11, .val (.int (tE d k : Nat)), x13, x14, x15, x16, x17, .val (dQ 1), x19, x20, x21, .un], S⟩) := by
  obtain ⟨hd, k1, l1, k3, l3, kl4⟩ := G.T.ex
  have v1 := v_repeat_count (i := k_ + 10) (S := S) (d := d) (k := k) (by omega) (by omega)
  rw [G.T.du.1] at v1
  generalize ((tE d k : Nat) : Int) = z at *
  simp -implicitDefEqProofs [c7_, v1, dQ_1]
theorem stc8 {x0 x2 x3 x4 x5 x6 x7 x8 x9 x10 x11 x13 x14 x16 x17 x19 x20 x21 : SV} {S : Option Src} (G : Gc d k l a b g) : ∃ y19 : SV, 
    exS (mean tbl C (k_ + 12)) C FUEL c8_ ⟨[x0, .src, x2, x3, x4, x5, x6, x7, x8, x9, x10, x11, .val (.int (tE d k : Nat)), x13, x14, .val (dP g), x16, x17, .val (dQ 1), x19, x20, x21, .un], S⟩ = some (.nx, ⟨[x0, .src, x2, x3, x4, x5, x6, x7, x8, x9, x10, x11, .val (.int (tE d k : Nat)), x13, x14, .val (dP g), x16, x17, .val (dQ (co g d ^ tE d k)), y19, x20, x21, .un], S⟩) := by
  obtain ⟨_, t4⟩ := G.T.du
  obtain ⟨_, _, _, _, _, _, a80, b80⟩ := G.T.sa
  have C1 := G.X.co d
  have h1 : ∃ st', forF (.name 19) (exB (mean tbl C (k_ + 12)) C FUEL fC) ((List.range (tE d k)).map fun i => .int (i : Nat)) ⟨[x0, .src, x2, x3, x4, x5, x6, x7, x8, x9, x10, x11, .val (.int (tE d k : Nat)), x13, x14, .val (dP g), x16, x17, .val (dQ (co g d ^ 0)), x19, x20, x21, .un], S⟩ = some (.nx, st') ∧ ∃ y19, st' = ⟨[x0, .src, x2, x3, x4, x5, x6, x7, x8, x9, x10, x11, .val (.int (tE d k : Nat)), x13, x14, .val (dP g), x16, x17, .val (dQ (co g d ^ (tE d k))), y19, x20, x21, .un], S⟩ :=
    for_rng (tg := .name 19) (e := fun i => .int (i : Nat)) (P := fun i st' => ∃ y19, st' = ⟨[x0, .src, x2, x3, x4, x5, x6, x7, x8, x9, x10, x11, .val (.int (tE d k : Nat)), x13, x14, .val (dP g), x16, x17, .val (dQ (co g d ^ i)), y19, x20, x21, .un], S⟩) ⟨_, rfl⟩ (by
      rintro i hi st ⟨y19, rfl⟩
      refine ⟨_, ⟨[x0, .src, x2, x3, x4, x5, x6, x7, x8, x9, x10, x11, .val (.int (tE d k : Nat)), x13, x14, .val (dP g), x16, x17, .val (dQ (co g d ^ (i + 1))), .val (.int (i : Nat)), x20, x21, .un], S⟩, rfl, ?_, _, rfl⟩
      have l1 : a * i ≤ 80 * 4 := Nat.mul_le_mul (by omega) (by omega)
      have l2 : b * i ≤ 80 * 4 := Nat.mul_le_mul (by omega) (by omega)
      have v1 := v__law_mul (k := k_ + 10) (S := S) (fq_sm (fq_pow C1 i) (by omega) (by omega)) (fq_sm C1 (by omega) (by omega))
      rw [← Rat.pow_succ] at v1
      have z1 := dP_end (f := g) (by rw [G.P.len]; omega)
      rw [G.P.len, Nat.add_sub_cancel] at z1
      simp only [fC]
      generalize dQ (co g d ^ (i + 1)) = r1 at *
      generalize dQ (co g d ^ i) = r2 at *
      generalize dQ (co g d) = r3 at *
      generalize dP g = d1 at *
      simp -implicitDefEqProofs [v1, z1])
  obtain ⟨st', h2, y19, rfl⟩ := h1
  refine ⟨y19, ?_⟩
  rw [Rat.pow_zero] at h2
  have rg := rng_one' (n := tE d k) (by omega)
  simp only [fC] at h2
  generalize (List.range (tE d k)).map (fun i => PyData.int (i : Nat)) = items at *
  generalize dQ (co g d ^ tE d k) = r1 at *
  generalize dQ 1 = r2 at *
  generalize dP g = d1 at *
  generalize ((tE d k : Nat) : Int) = z at *
  simp -implicitDefEqProofs [c8_, rg, h2]
theorem stc9 {x0 x2 x3 x4 x6 x7 x8 x11 x12 x13 x14 x15 x16 x17 x19 x20 x21 : SV} {S : Option Src} (G : Gc d k l a b g) : 
    exS (mean tbl C (k_ + 12)) C FUEL c9_ ⟨[x0, .src, x2, x3, x4, .val (dP (rp g k)), x6, x7, x8, .val (.int (d : Nat)), .val (.int (k : Nat)), x11, x12, x13, x14, x15, x16, x17, .val (dQ (co g d ^ tE d k)), x19, x20, x21, .un], S⟩ = some (.nx, ⟨[x0, .src, x2, x3, x4, .val (dP (rp g k)), x6, x7, x8, .val (.int (d : Nat)), .val (.int (k : Nat)), x11, x12, x13, x14, x15, x16, x17, .val (dQ (co g d ^ tE d k)), x19, x20, x21, .un], S⟩) := by
  obtain ⟨hd, k1, l1, k3, l3, kl4⟩ := G.T.ex
  obtain ⟨Pk_, top⟩ := rp_pl G.P k
  have z1 := dP_end (f := rp g k) (by rw [Pk_.len]; omega)
  rw [Pk_.len, Nat.add_sub_cancel, top] at z1
  have v1 := v_degree_of (k := k_ + 11) (S := S) (f := rp g k) (fun z => by have := Pk_.len; rw [z] at this; simp at this)
  rw [Pk_.len] at v1
  have e1 : ((d ^ k + 1 : Nat) : Int) - 1 = ((d ^ k : Nat) : Int) := by omega
  rw [e1] at v1
  have v2 := lnp (k := k_ + 11) (S := S) (m := d) (n := k) (by omega) (by omega)
  have q1 : copD .ne (dQ (co g d ^ tE d k)) (dQ (co g d ^ tE d k)) = some (.val (.bool false)) := by rw [ne_dQ]; simp
  clear e1
  generalize dQ (co g d ^ tE d k) = r1 at *
  generalize dP (rp g k) = d1 at *
  generalize ((d ^ k : Nat) : Int) = z at *
  simp -implicitDefEqProofs [c9_, z1, v1, v2, q1]
theorem stc10 {x0 x2 x3 x4 x5 x6 x7 x8 x10 x11 x12 x13 x15 x16 x17 x18 x19 x20 x21 : SV} {S : Option Src} (G : Gc d k l a b g) : 
    exS (mean tbl C (k_ + 12)) C FUEL c10_ ⟨[x0, .src, x2, x3, x4, x5, x6, x7, x8, .val (.int (d : Nat)), x10, x11, x12, x13, .val (.int (l : Nat)), x15, x16, x17, x18, x19, x20, x21, .un], S⟩ = some (.nx, ⟨[x0, .src, x2, x3, x4, x5, x6, x7, x8, .val (.int (d : Nat)), x10, x11, x12, x13, .val (.int (l : Nat)), x15, x16, x17, x18, x19, .val (.int (d ^ l : Nat)), x21, .un], S⟩) := by
  obtain ⟨hd, k1, l1, k3, l3, kl4⟩ := G.T.ex
  have v2 := lnp (k := k_ + 11) (S := S) (m := d) (n := l) (by omega) (by omega)
  generalize ((d ^ l : Nat) : Int) = z at *
  simp -implicitDefEqProofs [c10_, v2]
theorem stc11 {x0 x2 x3 x4 x5 x6 x7 x8 x9 x10 x11 x12 x13 x14 x15 x18 x19 x21 : SV} {S : Option Src} (G : Gc d k l a b g) : 
    exS (mean tbl C (k_ + 12)) C FUEL c11_ ⟨[x0, .src, x2, x3, x4, x5, x6, x7, x8, x9, x10, x11, x12, x13, x14, x15, .val (dP (rp g l)), .val (dP (rp g (k + l))), x18, x19, .val (.int (d ^ l : Nat)), x21, .un], S⟩ = some (.nx, ⟨[x0, .src, x2, x3, x4, x5, x6, x7, x8, x9, x10, x11, x12, x13, x14, x15, .val (dP (rp g l)), .val (dP (rp g (k + l))), x18, x19, .val (.int (d ^ l : Nat)), x21, .un], S⟩) := by
  obtain ⟨Pl_, _⟩ := rp_pl G.P l
  obtain ⟨_, _, a8, b8, _⟩ := G.T.sa
  have vn := v_normal_q (k := k_ + 6) (S := S) Pl_ (G.q (i := l) (by omega)) (by have := G.le28 (i := l) (by omega); rw [G.lenk] at this; omega) (by omega) (by omega)
  have ix : ∀ x y z : PyData, ixD (.tuple [x, y, z]) (.int 2) = some (.val z) := fun _ _ _ => rfl
  have v1 := G.pk.inner (k := k_ + 4) (S := S)
  rw [G.cand.2.1, if_pos rfl] at v1
  have rp_ := rep_dP (((G.q (i := l) (by omega)).nrm Pl_).hb (k := 1900) (by omega) (by omega)) (by
    have := G.le28 (i := l) (by omega)
    rw [G.lenk] at this
    rw [(nrm_nm Pl_).len]; exact this)
  generalize dP (nrm (rp g l)) = d0 at *
  generalize dP (rp g (k + l)) = d1 at *
  generalize dP (rp g l) = d2 at *
  generalize dQ (co (rp g l) (d ^ l)) = r1 at *
  generalize dQ (co (rp g l) 0) = r2 at *
  generalize ((d ^ l : Nat) : Int) = z at *
  simp -implicitDefEqProofs [c11_, vn, ix, v1, rp_, str_ne]
theorem stc12 {x0 x2 x3 x4 x5 x6 x7 x8 x9 x10 x11 x12 x13 x14 x15 x18 x19 x20 x21 : SV} {S : Option Src} (G : Gc d k l a b g) : 
    exS (mean tbl C (k_ + 12)) C FUEL c12_ ⟨[x0, .src, x2, x3, x4, x5, x6, x7, x8, x9, x10, x11, x12, x13, x14, x15, .val (dP (rp g l)), .val (dP (rp g (k + l))), x18, x19, x20, x21, .un], S⟩ = some (.nx, ⟨[x0, .src, x2, x3, x4, x5, x6, x7, x8, x9, x10, x11, x12, x13, x14, x15, .val (dP (rp g l)), .val (dP (rp g (k + l))), x18, x19, x20, .val (dP (compP (rp g k) [co (rp g l) 0, co (rp g l) (d ^ l)])), .un], S⟩) := by
  obtain ⟨Pl_, _⟩ := rp_pl G.P l
  obtain ⟨_, _, a8, b8, _⟩ := G.T.sa
  have vn := v_normal_q (k := k_ + 6) (S := S) Pl_ (G.q (i := l) (by omega)) (by have := G.le28 (i := l) (by omega); rw [G.lenk] at this; omega) (by omega) (by omega)
  have ix : ∀ x y z : PyData, ixD (.tuple [x, y, z]) (.int 2) = some (.val z) := fun _ _ _ => rfl
  have v1 := v_outer_part (k := k_ + 6) (S := S) G.zr
  unfold ouD at v1
  rw [if_pos G.cand.2.1, G.cand.2.2] at v1
  generalize dP (compP (rp g k) [co (rp g l) 0, co (rp g l) (d ^ l)]) = d3 at *
  generalize dP (nrm (rp g l)) = d0 at *
  generalize dP (rp g (k + l)) = d1 at *
  generalize dP (rp g l) = d2 at *
  generalize dQ (co (rp g l) (d ^ l)) = r1 at *
  generalize dQ (co (rp g l) 0) = r2 at *
  simp -implicitDefEqProofs [c12_, vn, ix, v1]
theorem stc13 {x0 x2 x3 x4 x6 x7 x8 x9 x10 x11 x12 x13 x14 x15 x17 x18 x19 x20 : SV} {S : Option Src} (G : Gc d k l a b g) : 
    exS (mean tbl C (k_ + 12)) C FUEL c13_ ⟨[x0, .src, x2, x3, x4, .val (dP (rp g k)), x6, x7, x8, x9, x10, x11, x12, x13, x14, x15, .val (dP (rp g l)), x17, x18, x19, x20, .val (dP (compP (rp g k) [co (rp g l) 0, co (rp g l) (d ^ l)])), .un], S⟩ = some (.nx, ⟨[x0, .src, x2, x3, x4, .val (dP (rp g k)), x6, x7, x8, x9, x10, x11, x12, x13, x14, x15, .val (dP (rp g l)), x17, x18, x19, x20, .val (dP (compP (rp g k) [co (rp g l) 0, co (rp g l) (d ^ l)])), .un], S⟩) := by
  obtain ⟨Pl_, _⟩ := rp_pl G.P l
  obtain ⟨Pk_, _⟩ := rp_pl G.P k
  have Ql := G.q (i := l) (by omega)
  have Qk := G.q (i := k) (by omega)
  have Y : Pq (sA a d l + sA a d l) (sB b d l + sA a d l) [co (rp g l) 0, co (rp g l) (d ^ l)] := Pq.two (Ql.co 0) (Ql.co (d ^ l)) (Nat.le_refl _) (Nat.le_refl _)
  have v1 := wc_put (k := k_ + 8) (S := S) (L := 2) Qk Y Pk_.len (by simp) G.T.w3
  have tr : trim [co (rp g l) 0, co (rp g l) (d ^ l)] = [co (rp g l) 0, co (rp g l) (d ^ l)] := trim_of_tr fun z => Pl_.nz (by simpa using z)
  have v2 := v__law_cut (k := k_ + 11) (S := S) (f := [co (rp g l) 0, co (rp g l) (d ^ l)]) (by simp)
  rw [tr] at v2
  have e2 : [co (rp g l) 0, co (rp g l) (d ^ l)].map dQ = [dQ (co (rp g l) 0), dQ (co (rp g l) (d ^ l))] := rfl
  rw [e2] at v2
  have z0 := dP_zero (f := rp g l) (by rw [Pl_.len]; omega)
  have z1 := dP_end (f := rp g l) (by rw [Pl_.len]; omega)
  rw [Pl_.len, Nat.add_sub_cancel] at z1
  have oq := wc_q (L := 2) Qk Y (by rw [G.lenk]; exact Nat.le_refl _) (by simp) G.T.w3
  have lo := comp_len (a := d ^ k) (d := 1) (g := rp g k) (h := [co (rp g l) 0, co (rp g l) (d ^ l)]) (by rw [G.lenk]; exact Nat.le_refl _) (by simp)
  have le := G.le28 (i := k) (by omega)
  rw [G.lenk] at le
  have rp_ := rep_dP (oq.hb (k := 1900) G.T.rp.1 G.T.rp.2) (by omega)
  clear e2 tr
  generalize dP (compP (rp g k) [co (rp g l) 0, co (rp g l) (d ^ l)]) = d3 at *
  generalize dP [co (rp g l) 0, co (rp g l) (d ^ l)] = d4 at *
  generalize dP (rp g l) = d2 at *
  generalize dP (rp g k) = d1 at *
  generalize dQ (co (rp g l) (d ^ l)) = r1 at *
  generalize dQ (co (rp g l) 0) = r2 at *
  simp -implicitDefEqProofs [c13_, v1, v2, z0, z1, rp_, str_ne]
end
end K48

set_option Elab.async false
set_option linter.all false
set_option maxRecDepth 100000
set_option maxHeartbeats 4000000
set_option exponentiation.threshold 200000
set_option autoImplicit false
namespace K48
open PySem DE
open L2 (ixN)

section
variable {k_ n m i j d k l e b a v t lp far : Nat} {c x s : Rat} {f g h : List Rat}
def lapAB : List Stm := [a0_, a1_, a2_, a3_, a4_, a5_, a6_, a7_, a8_]
theorem lapA {x0 x3 x4 x5 x6 x7 x8 x9 x10 x11 x12 x13 x14 x15 x16 x17 x18 x19 x20 x21 : SV} {s_ : Src} (hs : Sk s_) (hl : lp < 6) : ∃ (y3 y4 y5 y6 y7 y8 y9 y10 y11 y12 y13 y14 y15 y16 y17 y18 y19 y20 y21 : SV) (s' : Src), Sk s' ∧ exB (mean tbl C (k_ + 12)) C FUEL lapAB ⟨[x0, .src, .val (.int (lp : Nat)), x3, x4, x5, x6, x7, x8, x9, x10, x11, x12, x13, x14, x15, x16, x17, x18, x19, x20, x21, .un], some s_⟩ = some (.nx, ⟨[x0, .src, .val (.int (lp : Nat)), y3, y4, y5, y6, y7, y8, y9, y10, y11, y12, y13, y14, y15, y16, y17, y18, y19, y20, y21, .un], some s'⟩) := by
  obtain ⟨n, far, s1, ⟨n0, n60, f0, f1⟩, h1, e0⟩ := sta0 (k_ := k_) (x0 := x0) (x3 := x3) (x4 := x4) (x5 := x5) (x6 := x6) (x7 := x7) (x8 := x8) (x9 := x9) (x10 := x10) (x11 := x11) (x12 := x12) (x13 := x13) (x14 := x14) (x15 := x15) (x16 := x16) (x17 := x17) (x18 := x18) (x19 := x19) (x20 := x20) (x21 := x21) hs hl
  obtain ⟨y, s2, hy, h2, e1⟩ := sta1 (k_ := k_) (x0 := x0) (x2 := .val (.int (lp : Nat))) (x3 := .val (.int (n : Nat))) (x5 := x5) (x6 := x6) (x7 := x7) (x8 := x8) (x9 := x9) (x10 := x10) (x11 := x11) (x12 := x12) (x13 := x13) (x14 := x14) (x15 := x15) (x16 := x16) (x17 := x17) (x18 := x18) (x19 := x19) (x20 := x20) (x21 := x21) h1 f0 f1
  obtain ⟨x, ⟨x0_, hx⟩, e2⟩ := sta2 (k_ := k_) (x0 := x0) (x2 := .val (.int (lp : Nat))) (x3 := .val (.int (n : Nat))) (x4 := .val (.int (far : Nat))) (x6 := x6) (x7 := x7) (x8 := x8) (x9 := x9) (x10 := x10) (x11 := x11) (x12 := x12) (x13 := x13) (x14 := x14) (x15 := x15) (x16 := x16) (x17 := x17) (x18 := x18) (x19 := x19) (x20 := x20) (x21 := x21) (S := some s2) hy
  have P : Pn n x := ⟨n0, n60, x0_, hx⟩
  have e3 := sta3 (k_ := k_) (x0 := x0) (x2 := .val (.int (lp : Nat))) (x4 := .val (.int (far : Nat))) (x6 := x6) (x7 := x7) (x8 := x8) (x9 := x9) (x10 := x10) (x11 := x11) (x12 := x12) (x13 := x13) (x14 := x14) (x15 := x15) (x16 := x16) (x17 := x17) (x18 := x18) (x19 := x19) (x20 := x20) (x21 := x21) (S := some s2) P
  have e4 := sta4 (k_ := k_) (x0 := x0) (x2 := .val (.int (lp : Nat))) (x4 := .val (.int (far : Nat))) (x7 := x7) (x8 := x8) (x9 := x9) (x10 := x10) (x11 := x11) (x12 := x12) (x13 := x13) (x14 := x14) (x15 := x15) (x16 := x16) (x17 := x17) (x18 := x18) (x19 := x19) (x20 := x20) (x21 := x21) (S := some s2) P
  obtain ⟨p_, q_, s3, hh, h3, e5⟩ := sta5 (k_ := k_) (x0 := x0) (x2 := .val (.int (lp : Nat))) (x3 := .val (.int (n : Nat))) (x4 := .val (.int (far : Nat))) (x5 := .val (dQ x)) (x7 := x7) (x8 := x8) (x9 := x9) (x10 := x10) (x11 := x11) (x12 := x12) (x13 := x13) (x14 := x14) (x15 := x15) (x16 := x16) (x17 := x17) (x18 := x18) (x19 := x19) (x20 := x20) (x21 := x21) h2 P
  obtain ⟨c, R, e6⟩ := sta6 (k_ := k_) (x0 := x0) (x2 := .val (.int (lp : Nat))) (x3 := .val (.int (n : Nat))) (x4 := .val (.int (far : Nat))) (x5 := .val (dQ x)) (x6 := .val (dQ (x ^ n))) (x8 := x8) (x9 := x9) (x10 := x10) (x11 := x11) (x12 := x12) (x13 := x13) (x14 := x14) (x15 := x15) (x16 := x16) (x17 := x17) (x18 := x18) (x19 := x19) (x20 := x20) (x21 := x21) (S := some s3) n0 n60 hh
  obtain ⟨y8, e7⟩ := sta7 (k_ := k_) (x0 := x0) (x2 := .val (.int (lp : Nat))) (x4 := .val (.int (far : Nat))) (x8 := x8) (x9 := x9) (x10 := x10) (x11 := x11) (x12 := x12) (x13 := x13) (x14 := x14) (x15 := x15) (x16 := x16) (x17 := x17) (x18 := x18) (x19 := x19) (x20 := x20) (x21 := x21) (S := some s3) P R
  have e8 := sta8 (k_ := k_) (x0 := x0) (x2 := .val (.int (lp : Nat))) (x4 := .val (.int (far : Nat))) (x7 := .val (dQ c)) (x8 := y8) (x9 := x9) (x10 := x10) (x11 := x11) (x12 := x12) (x13 := x13) (x14 := x14) (x15 := x15) (x16 := x16) (x17 := x17) (x18 := x18) (x19 := x19) (x20 := x20) (x21 := x21) (S := some s3) P
  refine ⟨(.val (.int (n : Nat))), (.val (.int (far : Nat))), (.val (dQ x)), (.val (dQ (x ^ n))), (.val (dQ c)), (y8), (x9), (x10), (x11), (x12), (x13), (x14), (x15), (x16), (x17), (x18), (x19), (x20), (x21), s3, h3, ?_⟩
  rw [show lapAB = [a0_, a1_, a2_, a3_, a4_, a5_, a6_, a7_, a8_] from rfl]
  exact (ex_nx e0).trans ((ex_nx e1).trans ((ex_nx e2).trans ((ex_nx e3).trans ((ex_nx e4).trans ((ex_nx e5).trans ((ex_nx e6).trans ((ex_nx e7).trans ((ex_nx e8).trans rfl))))))))
def lapB_B : List Stm := [b0_, b1_, b2_, b3_, b4_]
theorem lapB_ {x0 x3 x4 x5 x6 x7 x8 x9 x10 x11 x12 x13 x14 x15 x16 x17 x18 x19 x20 x21 : SV} {s_ : Src} (hs : Sk s_) (hl : lp < 8) : ∃ (y3 y4 y5 y6 y7 y8 y9 y10 y11 y12 y13 y14 y15 y16 y17 y18 y19 y20 y21 : SV) (s' : Src), Sk s' ∧ exB (mean tbl C (k_ + 12)) C FUEL lapB_B ⟨[x0, .src, .val (.int (lp : Nat)), x3, x4, x5, x6, x7, x8, x9, x10, x11, x12, x13, x14, x15, x16, x17, x18, x19, x20, x21, .un], some s_⟩ = some (.nx, ⟨[x0, .src, .val (.int (lp : Nat)), y3, y4, y5, y6, y7, y8, y9, y10, y11, y12, y13, y14, y15, y16, y17, y18, y19, y20, y21, .un], some s'⟩) := by
  obtain ⟨d, k, s1, hd, h1, e0⟩ := stb0 (k_ := k_) (x0 := x0) (x2 := .val (.int (lp : Nat))) (x3 := x3) (x4 := x4) (x5 := x5) (x6 := x6) (x7 := x7) (x8 := x8) (x9 := x9) (x10 := x10) (x11 := x11) (x12 := x12) (x13 := x13) (x14 := x14) (x15 := x15) (x16 := x16) (x17 := x17) (x18 := x18) (x19 := x19) (x20 := x20) (x21 := x21) hs
  obtain ⟨n, s2, hn, h2, e1⟩ := stb1 (k_ := k_) (x0 := x0) (x2 := .val (.int (lp : Nat))) (x3 := x3) (x4 := x4) (x5 := x5) (x6 := x6) (x7 := x7) (x8 := x8) (x11 := x11) (x12 := x12) (x13 := x13) (x14 := x14) (x15 := x15) (x16 := x16) (x17 := x17) (x18 := x18) (x19 := x19) (x20 := x20) (x21 := x21) h1 hd
  have e2 := stb2 (k_ := k_) (x0 := x0) (x2 := .val (.int (lp : Nat))) (x3 := x3) (x4 := x4) (x5 := x5) (x6 := x6) (x7 := x7) (x8 := x8) (x9 := .val (.int (d : Nat))) (x12 := x12) (x13 := x13) (x14 := x14) (x15 := x15) (x16 := x16) (x17 := x17) (x18 := x18) (x19 := x19) (x20 := x20) (x21 := x21) (S := some s2) hd hn
  have e3 := stb3 (k_ := k_) (x0 := x0) (x2 := .val (.int (lp : Nat))) (x3 := x3) (x4 := x4) (x5 := x5) (x6 := x6) (x7 := x7) (x8 := x8) (x11 := .val (.int (n : Nat))) (x12 := x12) (x13 := x13) (x14 := x14) (x15 := x15) (x16 := x16) (x17 := x17) (x18 := x18) (x19 := x19) (x20 := x20) (x21 := x21) (S := some s2) hd
  have e4 := stb4 (k_ := k_) (x0 := x0) (x2 := .val (.int (lp : Nat))) (x3 := x3) (x4 := x4) (x5 := x5) (x6 := x6) (x7 := x7) (x8 := x8) (x11 := .val (.int (n : Nat))) (x13 := x13) (x14 := x14) (x15 := x15) (x16 := x16) (x17 := x17) (x18 := x18) (x19 := x19) (x20 := x20) (x21 := x21) (S := some s2) hd
  refine ⟨(x3), (x4), (x5), (x6), (x7), (x8), (.val (.int (d : Nat))), (.val (.int (k : Nat))), (.val (.int (n : Nat))), (.val (.int (rcN d k))), (x13), (x14), (x15), (x16), (x17), (x18), (x19), (x20), (x21), s2, h2, ?_⟩
  rw [show lapB_B = [b0_, b1_, b2_, b3_, b4_] from rfl]
  exact (ex_nx e0).trans ((ex_nx e1).trans ((ex_nx e2).trans ((ex_nx e3).trans ((ex_nx e4).trans rfl))))
def lapCB : List Stm := [c0_, c1_, c2_, c3_, c4_, c5_, c6_, c7_, c8_, c9_, c10_, c11_, c12_, c13_]
theorem lapC {x0 x3 x4 x5 x6 x7 x8 x9 x10 x11 x12 x13 x14 x15 x16 x17 x18 x19 x20 x21 : SV} {s_ : Src} (hs : Sk s_) (hl : lp < 3) : ∃ (y3 y4 y5 y6 y7 y8 y9 y10 y11 y12 y13 y14 y15 y16 y17 y18 y19 y20 y21 : SV) (s' : Src), Sk s' ∧ exB (mean tbl C (k_ + 12)) C FUEL lapCB ⟨[x0, .src, .val (.int (lp : Nat)), x3, x4, x5, x6, x7, x8, x9, x10, x11, x12, x13, x14, x15, x16, x17, x18, x19, x20, x21, .un], some s_⟩ = some (.nx, ⟨[x0, .src, .val (.int (lp : Nat)), y3, y4, y5, y6, y7, y8, y9, y10, y11, y12, y13, y14, y15, y16, y17, y18, y19, y20, y21, .un], some s'⟩) := by
  have e0 := stc0 (k_ := k_) (x0 := x0) (x2 := .val (.int (lp : Nat))) (x3 := x3) (x4 := x4) (x5 := x5) (x6 := x6) (x7 := x7) (x8 := x8) (x9 := x9) (x10 := x10) (x11 := x11) (x12 := x12) (x13 := x13) (x14 := x14) (x15 := x15) (x16 := x16) (x17 := x17) (x18 := x18) (x19 := x19) (x20 := x20) (x21 := x21) (S := some s_)
  obtain ⟨d, k, l, s1, R, h1, e1⟩ := stc1 (k_ := k_) (x0 := x0) (x3 := x3) (x4 := x4) (x5 := x5) (x6 := x6) (x7 := x7) (x8 := x8) (x11 := x11) (x12 := x12) (x15 := x15) (x16 := x16) (x17 := x17) (x18 := x18) (x19 := x19) (x20 := x20) (x21 := x21) hs hl
  obtain ⟨a, b, g, s2, G, h2, e2⟩ := stc2 (k_ := k_) (x0 := x0) (x3 := x3) (x4 := x4) (x5 := x5) (x6 := x6) (x7 := x7) (x8 := x8) (x10 := .val (.int (k : Nat))) (x11 := x11) (x12 := x12) (x13 := .own [.list [.tuple [.int 2, .int 1, .int 2], .tuple [.int 3, .int 1, .int 1], .tuple [.int 2, .int 2, .int 1]], .list [.tuple [.int 2, .int 1, .int 3], .tuple [.int 2, .int 2, .int 2]], .list [.tuple [.int 3, .int 2, .int 1], .tuple [.int 3, .int 1, .int 2]]]) (x14 := .val (.int (l : Nat))) (x15 := x15) (x16 := x16) (x17 := x17) (x18 := x18) (x19 := x19) (x20 := x20) (x21 := x21) h1 R
  have e3 := stc3 (k_ := k_) (x0 := x0) (x2 := .val (.int (lp : Nat))) (x3 := x3) (x4 := x4) (x5 := x5) (x6 := x6) (x7 := x7) (x8 := x8) (x9 := .val (.int (d : Nat))) (x11 := x11) (x12 := x12) (x13 := .own [.list [.tuple [.int 2, .int 1, .int 2], .tuple [.int 3, .int 1, .int 1], .tuple [.int 2, .int 2, .int 1]], .list [.tuple [.int 2, .int 1, .int 3], .tuple [.int 2, .int 2, .int 2]], .list [.tuple [.int 3, .int 2, .int 1], .tuple [.int 3, .int 1, .int 2]]]) (x16 := x16) (x17 := x17) (x18 := x18) (x19 := x19) (x20 := x20) (x21 := x21) (S := some s2) G
  have e4 := stc4 (k_ := k_) (x0 := x0) (x2 := .val (.int (lp : Nat))) (x3 := x3) (x4 := x4) (x6 := x6) (x7 := x7) (x8 := x8) (x9 := .val (.int (d : Nat))) (x11 := x11) (x12 := x12) (x13 := .own [.list [.tuple [.int 2, .int 1, .int 2], .tuple [.int 3, .int 1, .int 1], .tuple [.int 2, .int 2, .int 1]], .list [.tuple [.int 2, .int 1, .int 3], .tuple [.int 2, .int 2, .int 2]], .list [.tuple [.int 3, .int 2, .int 1], .tuple [.int 3, .int 1, .int 2]]]) (x18 := x18) (x19 := x19) (x20 := x20) (x21 := x21) (S := some s2) G
  have e5 := stc5 (k_ := k_) (x0 := x0) (x2 := .val (.int (lp : Nat))) (x3 := x3) (x4 := x4) (x6 := x6) (x7 := x7) (x8 := x8) (x9 := .val (.int (d : Nat))) (x10 := .val (.int (k : Nat))) (x11 := x11) (x12 := x12) (x13 := .own [.list [.tuple [.int 2, .int 1, .int 2], .tuple [.int 3, .int 1, .int 1], .tuple [.int 2, .int 2, .int 1]], .list [.tuple [.int 2, .int 1, .int 3], .tuple [.int 2, .int 2, .int 2]], .list [.tuple [.int 3, .int 2, .int 1], .tuple [.int 3, .int 1, .int 2]]]) (x14 := .val (.int (l : Nat))) (x15 := .val (dP g)) (x18 := x18) (x19 := x19) (x20 := x20) (x21 := x21) (S := some s2) G
  have e6 := stc6 (k_ := k_) (x0 := x0) (x2 := .val (.int (lp : Nat))) (x3 := x3) (x4 := x4) (x6 := x6) (x7 := x7) (x8 := x8) (x9 := .val (.int (d : Nat))) (x11 := x11) (x12 := x12) (x13 := .own [.list [.tuple [.int 2, .int 1, .int 2], .tuple [.int 3, .int 1, .int 1], .tuple [.int 2, .int 2, .int 1]], .list [.tuple [.int 2, .int 1, .int 3], .tuple [.int 2, .int 2, .int 2]], .list [.tuple [.int 3, .int 2, .int 1], .tuple [.int 3, .int 1, .int 2]]]) (x16 := .val (dP (rp g l))) (x17 := .val (dP (rp g (k + l)))) (x18 := x18) (x19 := x19) (x20 := x20) (x21 := x21) (S := some s2) G
  have e7 := stc7 (k_ := k_) (x0 := x0) (x2 := .val (.int (lp : Nat))) (x3 := x3) (x4 := x4) (x5 := .val (dP (rp g k))) (x6 := x6) (x7 := x7) (x8 := x8) (x11 := x11) (x12 := x12) (x13 := .own [.list [.tuple [.int 2, .int 1, .int 2], .tuple [.int 3, .int 1, .int 1], .tuple [.int 2, .int 2, .int 1]], .list [.tuple [.int 2, .int 1, .int 3], .tuple [.int 2, .int 2, .int 2]], .list [.tuple [.int 3, .int 2, .int 1], .tuple [.int 3, .int 1, .int 2]]]) (x14 := .val (.int (l : Nat))) (x15 := .val (dP g)) (x16 := .val (dP (rp g l))) (x17 := .val (dP (rp g (k + l)))) (x18 := x18) (x19 := x19) (x20 := x20) (x21 := x21) (S := some s2) G
  obtain ⟨y19, e8⟩ := stc8 (k_ := k_) (x0 := x0) (x2 := .val (.int (lp : Nat))) (x3 := x3) (x4 := x4) (x5 := .val (dP (rp g k))) (x6 := x6) (x7 := x7) (x8 := x8) (x9 := .val (.int (d : Nat))) (x10 := .val (.int (k : Nat))) (x11 := x11) (x13 := .own [.list [.tuple [.int 2, .int 1, .int 2], .tuple [.int 3, .int 1, .int 1], .tuple [.int 2, .int 2, .int 1]], .list [.tuple [.int 2, .int 1, .int 3], .tuple [.int 2, .int 2, .int 2]], .list [.tuple [.int 3, .int 2, .int 1], .tuple [.int 3, .int 1, .int 2]]]) (x14 := .val (.int (l : Nat))) (x16 := .val (dP (rp g l))) (x17 := .val (dP (rp g (k + l)))) (x19 := x19) (x20 := x20) (x21 := x21) (S := some s2) G
  have e9 := stc9 (k_ := k_) (x0 := x0) (x2 := .val (.int (lp : Nat))) (x3 := x3) (x4 := x4) (x6 := x6) (x7 := x7) (x8 := x8) (x11 := x11) (x12 := .val (.int (tE d k : Nat))) (x13 := .own [.list [.tuple [.int 2, .int 1, .int 2], .tuple [.int 3, .int 1, .int 1], .tuple [.int 2, .int 2, .int 1]], .list [.tuple [.int 2, .int 1, .int 3], .tuple [.int 2, .int 2, .int 2]], .list [.tuple [.int 3, .int 2, .int 1], .tuple [.int 3, .int 1, .int 2]]]) (x14 := .val (.int (l : Nat))) (x15 := .val (dP g)) (x16 := .val (dP (rp g l))) (x17 := .val (dP (rp g (k + l)))) (x19 := y19) (x20 := x20) (x21 := x21) (S := some s2) G
  have e10 := stc10 (k_ := k_) (x0 := x0) (x2 := .val (.int (lp : Nat))) (x3 := x3) (x4 := x4) (x5 := .val (dP (rp g k))) (x6 := x6) (x7 := x7) (x8 := x8) (x10 := .val (.int (k : Nat))) (x11 := x11) (x12 := .val (.int (tE d k : Nat))) (x13 := .own [.list [.tuple [.int 2, .int 1, .int 2], .tuple [.int 3, .int 1, .int 1], .tuple [.int 2, .int 2, .int 1]], .list [.tuple [.int 2, .int 1, .int 3], .tuple [.int 2, .int 2, .int 2]], .list [.tuple [.int 3, .int 2, .int 1], .tuple [.int 3, .int 1, .int 2]]]) (x15 := .val (dP g)) (x16 := .val (dP (rp g l))) (x17 := .val (dP (rp g (k + l)))) (x18 := .val (dQ (co g d ^ tE d k))) (x19 := y19) (x20 := x20) (x21 := x21) (S := some s2) G
  have e11 := stc11 (k_ := k_) (x0 := x0) (x2 := .val (.int (lp : Nat))) (x3 := x3) (x4 := x4) (x5 := .val (dP (rp g k))) (x6 := x6) (x7 := x7) (x8 := x8) (x9 := .val (.int (d : Nat))) (x10 := .val (.int (k : Nat))) (x11 := x11) (x12 := .val (.int (tE d k : Nat))) (x13 := .own [.list [.tuple [.int 2, .int 1, .int 2], .tuple [.int 3, .int 1, .int 1], .tuple [.int 2, .int 2, .int 1]], .list [.tuple [.int 2, .int 1, .int 3], .tuple [.int 2, .int 2, .int 2]], .list [.tuple [.int 3, .int 2, .int 1], .tuple [.int 3, .int 1, .int 2]]]) (x14 := .val (.int (l : Nat))) (x15 := .val (dP g)) (x18 := .val (dQ (co g d ^ tE d k))) (x19 := y19) (x21 := x21) (S := some s2) G
  have e12 := stc12 (k_ := k_) (x0 := x0) (x2 := .val (.int (lp : Nat))) (x3 := x3) (x4 := x4) (x5 := .val (dP (rp g k))) (x6 := x6) (x7 := x7) (x8 := x8) (x9 := .val (.int (d : Nat))) (x10 := .val (.int (k : Nat))) (x11 := x11) (x12 := .val (.int (tE d k : Nat))) (x13 := .own [.list [.tuple [.int 2, .int 1, .int 2], .tuple [.int 3, .int 1, .int 1], .tuple [.int 2, .int 2, .int 1]], .list [.tuple [.int 2, .int 1, .int 3], .tuple [.int 2, .int 2, .int 2]], .list [.tuple [.int 3, .int 2, .int 1], .tuple [.int 3, .int 1, .int 2]]]) (x14 := .val (.int (l : Nat))) (x15 := .val (dP g)) (x18 := .val (dQ (co g d ^ tE d k))) (x19 := y19) (x20 := .val (.int (d ^ l : Nat))) (x21 := x21) (S := some s2) G
  have e13 := stc13 (k_ := k_) (x0 := x0) (x2 := .val (.int (lp : Nat))) (x3 := x3) (x4 := x4) (x6 := x6) (x7 := x7) (x8 := x8) (x9 := .val (.int (d : Nat))) (x10 := .val (.int (k : Nat))) (x11 := x11) (x12 := .val (.int (tE d k : Nat))) (x13 := .own [.list [.tuple [.int 2, .int 1, .int 2], .tuple [.int 3, .int 1, .int 1], .tuple [.int 2, .int 2, .int 1]], .list [.tuple [.int 2, .int 1, .int 3], .tuple [.int 2, .int 2, .int 2]], .list [.tuple [.int 3, .int 2, .int 1], .tuple [.int 3, .int 1, .int 2]]]) (x14 := .val (.int (l : Nat))) (x15 := .val (dP g)) (x17 := .val (dP (rp g (k + l)))) (x18 := .val (dQ (co g d ^ tE d k))) (x19 := y19) (x20 := .val (.int (d ^ l : Nat))) (S := some s2) G
  refine ⟨(x3), (x4), (.val (dP (rp g k))), (x6), (x7), (x8), (.val (.int (d : Nat))), (.val (.int (k : Nat))), (x11), (.val (.int (tE d k : Nat))), (.own [.list [.tuple [.int 2, .int 1, .int 2], .tuple [.int 3, .int 1, .int 1], .tuple [.int 2, .int 2, .int 1]], .list [.tuple [.int 2, .int 1, .int 3], .tuple [.int 2, .int 2, .int 2]], .list [.tuple [.int 3, .int 2, .int 1], .tuple [.int 3, .int 1, .int 2]]]), (.val (.int (l : Nat))), (.val (dP g)), (.val (dP (rp g l))), (.val (dP (rp g (k + l)))), (.val (dQ (co g d ^ tE d k))), (y19), (.val (.int (d ^ l : Nat))), (.val (dP (compP (rp g k) [co (rp g l) 0, co (rp g l) (d ^ l)]))), s2, h2, ?_⟩
  rw [show lapCB = [c0_, c1_, c2_, c3_, c4_, c5_, c6_, c7_, c8_, c9_, c10_, c11_, c12_, c13_] from rfl]
  exact (ex_nx e0).trans ((ex_nx e1).trans ((ex_nx e2).trans ((ex_nx e3).trans ((ex_nx e4).trans ((ex_nx e5).trans ((ex_nx e6).trans ((ex_nx e7).trans ((ex_nx e8).trans ((ex_nx e9).trans ((ex_nx e10).trans ((ex_nx e11).trans ((ex_nx e12).trans ((ex_nx e13).trans rfl)))))))))))))
def LV : Nat := 12
def t0 : Stm := .ret (.and (.cmp .eq (.call 34 [.tup [.int 4, .int 9], .int 2]) (.tup [.tup [.neg (.int 2), .int 3], .tup [.int 2, .int 3]])) (.cmp .eq (.call 34 [.tup [.neg (.int 4), .int 9], .int 2]) (.tup [])))
theorem rc49 : Rc 2 (Rat.divInt 4 9) := ⟨by decide +kernel, ⟨by decide, by decide, by decide +kernel⟩, ⟨by decide, by decide, by decide +kernel⟩⟩
theorem rc49' : Rc 2 (Rat.divInt (-4) 9) := ⟨by decide +kernel, ⟨by decide, by decide, by decide +kernel⟩, ⟨by decide, by decide, by decide +kernel⟩⟩
theorem law_true (ns : List Int) (hn : ns.length ≤ 63) : ∃ S', mean tbl C (LV + 1) 52 [.scr ns] none = some (.val (.bool true), S') := by
  obtain ⟨s0, h0, e0⟩ := v__law_open_cells (k := 11) hn
  obtain ⟨st1, h1_, s1, hs1, u2, u3, u4, u5, u6, u7, u8, u9, u10, u11, u12, u13, u14, u15, u16, u17, u18, u19, u20, u21, rfl⟩ := for_rng (tg := .name 2) (ψ := exB (mean tbl C (0 + 12)) C FUEL lapAB) (e := fun i : Nat => .int (i : Nat)) (n := 6)
    (st := ⟨[.scr ns, .src, .un, .un, .un, .un, .un, .un, .un, .un, .un, .un, .un, .un, .un, .un, .un, .un, .un, .un, .un, .un, .un], some s0⟩) (P := fun _ st => ∃ s, Sk s ∧ ∃ y2 y3 y4 y5 y6 y7 y8 y9 y10 y11 y12 y13 y14 y15 y16 y17 y18 y19 y20 y21, st = ⟨[.scr ns, .src, y2, y3, y4, y5, y6, y7, y8, y9, y10, y11, y12, y13, y14, y15, y16, y17, y18, y19, y20, y21, .un], some s⟩) ⟨s0, h0, _, _, _, _, _, _, _, _, _, _, _, _, _, _, _, _, _, _, _, _, rfl⟩ (by
      rintro i hi st ⟨s, hs, y2, y3, y4, y5, y6, y7, y8, y9, y10, y11, y12, y13, y14, y15, y16, y17, y18, y19, y20, y21, rfl⟩
      obtain ⟨z3, z4, z5, z6, z7, z8, z9, z10, z11, z12, z13, z14, z15, z16, z17, z18, z19, z20, z21, s', hs', e⟩ := lapA (k_ := 0) (x0 := .scr ns) (x3 := y3) (x4 := y4) (x5 := y5) (x6 := y6) (x7 := y7) (x8 := y8) (x9 := y9) (x10 := y10) (x11 := y11) (x12 := y12) (x13 := y13) (x14 := y14) (x15 := y15) (x16 := y16) (x17 := y17) (x18 := y18) (x19 := y19) (x20 := y20) (x21 := y21) hs (lp := i) hi
      exact ⟨_, _, rfl, e, s', hs', _, _, _, _, _, _, _, _, _, _, _, _, _, _, _, _, _, _, _, _, rfl⟩)
  obtain ⟨st2, h2_, s2, hs2, v2, v3, v4, v5, v6, v7, v8, v9, v10, v11, v12, v13, v14, v15, v16, v17, v18, v19, v20, v21, rfl⟩ := for_rng (tg := .name 2) (ψ := exB (mean tbl C (0 + 12)) C FUEL lapB_B) (e := fun i : Nat => .int (i : Nat)) (n := 8)
    (st := ⟨[.scr ns, .src, u2, u3, u4, u5, u6, u7, u8, u9, u10, u11, u12, u13, u14, u15, u16, u17, u18, u19, u20, u21, .un], some s1⟩) (P := fun _ st => ∃ s, Sk s ∧ ∃ y2 y3 y4 y5 y6 y7 y8 y9 y10 y11 y12 y13 y14 y15 y16 y17 y18 y19 y20 y21, st = ⟨[.scr ns, .src, y2, y3, y4, y5, y6, y7, y8, y9, y10, y11, y12, y13, y14, y15, y16, y17, y18, y19, y20, y21, .un], some s⟩) ⟨s1, hs1, _, _, _, _, _, _, _, _, _, _, _, _, _, _, _, _, _, _, _, _, rfl⟩ (by
      rintro i hi st ⟨s, hs, y2, y3, y4, y5, y6, y7, y8, y9, y10, y11, y12, y13, y14, y15, y16, y17, y18, y19, y20, y21, rfl⟩
      obtain ⟨z3, z4, z5, z6, z7, z8, z9, z10, z11, z12, z13, z14, z15, z16, z17, z18, z19, z20, z21, s', hs', e⟩ := lapB_ (k_ := 0) (x0 := .scr ns) (x3 := y3) (x4 := y4) (x5 := y5) (x6 := y6) (x7 := y7) (x8 := y8) (x9 := y9) (x10 := y10) (x11 := y11) (x12 := y12) (x13 := y13) (x14 := y14) (x15 := y15) (x16 := y16) (x17 := y17) (x18 := y18) (x19 := y19) (x20 := y20) (x21 := y21) hs (lp := i) hi
      exact ⟨_, _, rfl, e, s', hs', _, _, _, _, _, _, _, _, _, _, _, _, _, _, _, _, _, _, _, _, rfl⟩)
  obtain ⟨st3, h3_, s3, hs3, w2, w3, w4, w5, w6, w7, w8, w9, w10, w11, w12, w13, w14, w15, w16, w17, w18, w19, w20, w21, rfl⟩ := for_rng (tg := .name 2) (ψ := exB (mean tbl C (0 + 12)) C FUEL lapCB) (e := fun i : Nat => .int (i : Nat)) (n := 3)
    (st := ⟨[.scr ns, .src, v2, v3, v4, v5, v6, v7, v8, v9, v10, v11, v12, v13, v14, v15, v16, v17, v18, v19, v20, v21, .un], some s2⟩) (P := fun _ st => ∃ s, Sk s ∧ ∃ y2 y3 y4 y5 y6 y7 y8 y9 y10 y11 y12 y13 y14 y15 y16 y17 y18 y19 y20 y21, st = ⟨[.scr ns, .src, y2, y3, y4, y5, y6, y7, y8, y9, y10, y11, y12, y13, y14, y15, y16, y17, y18, y19, y20, y21, .un], some s⟩) ⟨s2, hs2, _, _, _, _, _, _, _, _, _, _, _, _, _, _, _, _, _, _, _, _, rfl⟩ (by
      rintro i hi st ⟨s, hs, y2, y3, y4, y5, y6, y7, y8, y9, y10, y11, y12, y13, y14, y15, y16, y17, y18, y19, y20, y21, rfl⟩
      obtain ⟨z3, z4, z5, z6, z7, z8, z9, z10, z11, z12, z13, z14, z15, z16, z17, z18, z19, z20, z21, s', hs', e⟩ := lapC (k_ := 0) (x0 := .scr ns) (x3 := y3) (x4 := y4) (x5 := y5) (x6 := y6) (x7 := y7) (x8 := y8) (x9 := y9) (x10 := y10) (x11 := y11) (x12 := y12) (x13 := y13) (x14 := y14) (x15 := y15) (x16 := y16) (x17 := y17) (x18 := y18) (x19 := y19) (x20 := y20) (x21 := y21) hs (lp := i) hi
      exact ⟨_, _, rfl, e, s', hs', _, _, _, _, _, _, _, _, _, _, _, _, _, _, _, _, _, _, _, _, rfl⟩)
  refine ⟨some s3, ?_⟩
  show mean tbl C (12 + 1) 52 [.scr ns] none = _
  have body : b_law = [.asg 1 (.call 35 [.var 0]), .forS (.name 2) (.rng [.int 6]) lapAB, .forS (.name 2) (.rng [.int 8]) lapB_B, .forS (.name 2) (.rng [.int 3]) lapCB, t0] := rfl
  have q0 : exS (mean tbl C 12) C FUEL (.asg 1 (.call 35 [.var 0])) ⟨[.scr ns, .un, .un, .un, .un, .un, .un, .un, .un, .un, .un, .un, .un, .un, .un, .un, .un, .un, .un, .un, .un, .un, .un], none⟩ = some (.nx, ⟨[.scr ns, .src, .un, .un, .un, .un, .un, .un, .un, .un, .un, .un, .un, .un, .un, .un, .un, .un, .un, .un, .un, .un, .un], some s0⟩) := by
    simp -implicitDefEqProofs [e0]
  have q1 : exS (mean tbl C 12) C FUEL (.forS (.name 2) (.rng [.int 6]) lapAB) ⟨[.scr ns, .src, .un, .un, .un, .un, .un, .un, .un, .un, .un, .un, .un, .un, .un, .un, .un, .un, .un, .un, .un, .un, .un], some s0⟩ = some (.nx, ⟨[.scr ns, .src, u2, u3, u4, u5, u6, u7, u8, u9, u10, u11, u12, u13, u14, u15, u16, u17, u18, u19, u20, u21, .un], some s1⟩) := by
    have rg : rngD [.int 6] = some ((List.range 6).map fun i => .int (i : Nat)) := rng_one' (n := 6) (by decide)
    have hh : forF (.name 2) (exB (mean tbl C 12) C FUEL lapAB) ((List.range 6).map fun i => PyData.int (i : Nat)) ⟨[.scr ns, .src, .un, .un, .un, .un, .un, .un, .un, .un, .un, .un, .un, .un, .un, .un, .un, .un, .un, .un, .un, .un, .un], some s0⟩ = some (.nx, ⟨[.scr ns, .src, u2, u3, u4, u5, u6, u7, u8, u9, u10, u11, u12, u13, u14, u15, u16, u17, u18, u19, u20, u21, .un], some s1⟩) := h1_
    generalize (List.range 6).map (fun i => PyData.int (i : Nat)) = items at rg hh
    generalize hl : lapAB = lb at *
    simp -implicitDefEqProofs [rg, hh]
  have q2 : exS (mean tbl C 12) C FUEL (.forS (.name 2) (.rng [.int 8]) lapB_B) ⟨[.scr ns, .src, u2, u3, u4, u5, u6, u7, u8, u9, u10, u11, u12, u13, u14, u15, u16, u17, u18, u19, u20, u21, .un], some s1⟩ = some (.nx, ⟨[.scr ns, .src, v2, v3, v4, v5, v6, v7, v8, v9, v10, v11, v12, v13, v14, v15, v16, v17, v18, v19, v20, v21, .un], some s2⟩) := by
    have rg : rngD [.int 8] = some ((List.range 8).map fun i => .int (i : Nat)) := rng_one' (n := 8) (by decide)
    have hh : forF (.name 2) (exB (mean tbl C 12) C FUEL lapB_B) ((List.range 8).map fun i => PyData.int (i : Nat)) ⟨[.scr ns, .src, u2, u3, u4, u5, u6, u7, u8, u9, u10, u11, u12, u13, u14, u15, u16, u17, u18, u19, u20, u21, .un], some s1⟩ = some (.nx, ⟨[.scr ns, .src, v2, v3, v4, v5, v6, v7, v8, v9, v10, v11, v12, v13, v14, v15, v16, v17, v18, v19, v20, v21, .un], some s2⟩) := h2_
    generalize (List.range 8).map (fun i => PyData.int (i : Nat)) = items at rg hh
    generalize hl : lapB_B = lb at *
    simp -implicitDefEqProofs [rg, hh]
  have q3 : exS (mean tbl C 12) C FUEL (.forS (.name 2) (.rng [.int 3]) lapCB) ⟨[.scr ns, .src, v2, v3, v4, v5, v6, v7, v8, v9, v10, v11, v12, v13, v14, v15, v16, v17, v18, v19, v20, v21, .un], some s2⟩ = some (.nx, ⟨[.scr ns, .src, w2, w3, w4, w5, w6, w7, w8, w9, w10, w11, w12, w13, w14, w15, w16, w17, w18, w19, w20, w21, .un], some s3⟩) := by
    have rg : rngD [.int 3] = some ((List.range 3).map fun i => .int (i : Nat)) := rng_one' (n := 3) (by decide)
    have hh : forF (.name 2) (exB (mean tbl C 12) C FUEL lapCB) ((List.range 3).map fun i => PyData.int (i : Nat)) ⟨[.scr ns, .src, v2, v3, v4, v5, v6, v7, v8, v9, v10, v11, v12, v13, v14, v15, v16, v17, v18, v19, v20, v21, .un], some s2⟩ = some (.nx, ⟨[.scr ns, .src, w2, w3, w4, w5, w6, w7, w8, w9, w10, w11, w12, w13, w14, w15, w16, w17, w18, w19, w20, w21, .un], some s3⟩) := h3_
    generalize (List.range 3).map (fun i => PyData.int (i : Nat)) = items at rg hh
    generalize hl : lapCB = lb at *
    simp -implicitDefEqProofs [rg, hh]
  have n1 : (Rat.divInt 4 9).num = 4 ∧ (Rat.divInt 4 9).den = 9 := ⟨by decide +kernel, by decide +kernel⟩
  have n2 : (Rat.divInt (-4) 9).num = -4 ∧ (Rat.divInt (-4) 9).den = 9 := ⟨by decide +kernel, by decide +kernel⟩
  have B2 : Br (2 ^ 2) 2 2 := Br.of (by decide) (by decide)
  have B3 : Br (3 ^ 2) 2 3 := Br.of (by decide) (by decide)
  have v1 := v_roots_of (k := 8) (S := some s3) (r1 := 2) (r2 := 3) rc49 (by rw [n1.1]; exact B2) (by rw [n1.2]; exact B3)
  have v2 := v_roots_of (k := 8) (S := some s3) (r1 := 2) (r2 := 3) rc49' (by rw [n2.1]; exact B2) (by rw [n2.2]; exact B3)
  have d1 : dQ (Rat.divInt 4 9) = .tuple [.int 4, .int 9] := by rw [dQ, n1.1, n1.2]; rfl
  have d2 : dQ (Rat.divInt (-4) 9) = .tuple [.int (-4), .int 9] := by rw [dQ, n2.1, n2.2]; rfl
  have r1 : rtsD (Rat.divInt 4 9) 2 2 3 = .tuple [.tuple [.int (-2), .int 3], .tuple [.int 2, .int 3]] := by
    unfold rtsD
    rw [n1.1, n1.2, if_neg (by decide), if_neg (by decide)]; rfl
  have r2 : rtsD (Rat.divInt (-4) 9) 2 2 3 = .tuple [] := by
    unfold rtsD
    rw [n2.1, n2.2, if_pos (by decide)]
  rw [d1, r1] at v1
  rw [d2, r2] at v2
  have v1' : mean tbl C (8 + 4) i_roots_of [.val (.tuple [.int 4, .int 9]), .val (.int 2)] (some s3) = some (.val (.tuple [.tuple [.int (-2), .int 3], .tuple [.int 2, .int 3]]), some s3) := v1
  have v2' : mean tbl C (8 + 4) i_roots_of [.val (.tuple [.int (-4), .int 9]), .val (.int 2)] (some s3) = some (.val (.tuple []), some s3) := v2
  have eq1 : copD .eq (.tuple [.tuple [.int (-2), .int 3], .tuple [.int 2, .int 3]]) (.tuple [.tuple [.int (-2), .int 3], .tuple [.int 2, .int 3]]) = some (.val (.bool true)) := by
    have h1 : (Rat.divInt (-2) 3).num = -2 ∧ (Rat.divInt (-2) 3).den = 3 := ⟨by decide +kernel, by decide +kernel⟩
    have h2 : (Rat.divInt 2 3).num = 2 ∧ (Rat.divInt 2 3).den = 3 := ⟨by decide +kernel, by decide +kernel⟩
    have e : PyData.tuple [.tuple [.int (-2), .int 3], .tuple [.int 2, .int 3]] = dP [Rat.divInt (-2) 3, Rat.divInt 2 3] := by
      show _ = PyData.tuple [.tuple [.int (Rat.divInt (-2) 3).num, .int (Rat.divInt (-2) 3).den], .tuple [.int (Rat.divInt 2 3).num, .int (Rat.divInt 2 3).den]]
      rw [h1.1, h1.2, h2.1, h2.2]; rfl
    rw [e, eq_dP]; simp
  have eq2 : copD .eq (.tuple []) (.tuple []) = some (.val (.bool true)) := rfl
  have q4 : exS (mean tbl C 12) C FUEL t0 ⟨[.scr ns, .src, w2, w3, w4, w5, w6, w7, w8, w9, w10, w11, w12, w13, w14, w15, w16, w17, w18, w19, w20, w21, .un], some s3⟩ = some (.rt (.val (.bool true)), ⟨[.scr ns, .src, w2, w3, w4, w5, w6, w7, w8, w9, w10, w11, w12, w13, w14, w15, w16, w17, w18, w19, w20, w21, .un], some s3⟩) := by
    clear h1_ h2_ h3_ q1 q2 q3 v1 v2 d1 d2 r1 r2
    simp -implicitDefEqProofs [t0, v1', v2', eq1, eq2]
  have hb := (ex_nx q0).trans ((ex_nx q1).trans ((ex_nx q2).trans ((ex_nx q3).trans (ex_rt (b := []) q4))))
  have qg : (List.map slA [A.scr ns] ++ List.replicate (23 - 1) SV.un) = [.scr ns, .un, .un, .un, .un, .un, .un, .un, .un, .un, .un, .un, .un, .un, .un, .un, .un, .un, .un, .un, .un, .un, .un] := rfl
  have z := fn_rt (np := 1) rfl qg hb
  rw [u_law, body]
  exact z
end
end K48

set_option Elab.async false
set_option linter.all false
set_option maxRecDepth 100000
set_option maxHeartbeats 4000000
set_option autoImplicit false
namespace K48
open PySem PySem.Spec PyProof.Rows L2 DE
theorem blt_mk {K : PySem.W.Frag} (h0 : PySem.W.nsIn K mainGlobals "len" = some none) (h1 : PySem.W.nsIn K mainGlobals "abs" = some none) (h2 : PySem.W.nsIn K mainGlobals "int" = some none) (h3 : PySem.W.nsIn K mainGlobals "max" = some none) (h4 : PySem.W.nsIn K mainGlobals "min" = some none) (h5 : PySem.W.nsIn K mainGlobals "list" = some none) (h6 : PySem.W.nsIn K mainGlobals "tuple" = some none) (h7 : PySem.W.nsIn K mainGlobals "all" = some none) (h8 : PySem.W.nsIn K mainGlobals "any" = some none) (h9 : PySem.W.nsIn K mainGlobals "sum" = some none) (h10 : PySem.W.nsIn K mainGlobals "repr" = some none) (h11 : PySem.W.nsIn K mainGlobals "isinstance" = some none) (h12 : PySem.W.nsIn K mainGlobals "bool" = some none) (h13 : PySem.W.nsIn K mainGlobals "str" = some none) (h14 : PySem.W.nsIn K mainGlobals "dict" = some none) (h15 : PySem.W.nsIn K mainGlobals "range" = some none) (h16 : PySem.W.nsIn K mainGlobals "enumerate" = some none) (h17 : PySem.W.nsIn K mainGlobals "zip" = some none) (h18 : PySem.W.nsIn K mainGlobals "sorted" = some none) : ∀ x ∈ bltNames, PySem.W.nsIn K mainGlobals x = some none := by
  intro x hx
  simp only [bltNames, List.mem_cons, List.not_mem_nil, or_false] at hx
  rcases hx with rfl | rfl | rfl | rfl | rfl | rfl | rfl | rfl | rfl | rfl | rfl | rfl | rfl | rfl | rfl | rfl | rfl | rfl | rfl <;> assumption
theorem cst_mk {K : PySem.W.Frag} {mg : Str → Option Value} {h : Heap} (inK : K.In h) (Gl : h.Ns mainGlobals mg) (p0 : IsPair K "NONE" (0) (1)) (p1 : IsPair K "ONE" (1) (1)) (p2 : IsPP K "X" (0) (1) (1) (1)) : ∀ (i : Nat) x, nc[i]? = some x → ∃ v u, mg x = some u ∧ RelV v u ∧ ∀ G, En K G v (C i)
  | 0, _, e => by cases e; exact pair_cst inK Gl p0
  | 1, _, e => by cases e; exact pair_cst inK Gl p1
  | 2, _, e => by cases e; exact pp_cst inK Gl p2
  | n + 3, x, e => by simp [nc] at e
end K48
open PySem PySem.W PyProof.Rows in
set_option maxRecDepth 100000 in
set_option maxHeartbeats 0 in
theorem PySem.Challenge.cw_putwithin_k48_whole_roots_and_repeated_o_holds : PySem.Challenge.rw_putwithin_k48_whole_roots_and_repeated_o.Holds := by
  w_on; o_law; k_head; (case hw => w_witness2)
  k_fill
  refine DE.walk_g (l := PySem.Challenge.rw_putwithin_k48_whole_roots_and_repeated_o) (n := 63) (k := K48.LV + 1) (x := "script") (φ := DE.mean K48.tbl K48.C (K48.LV + 1) 52) rfl (by decide) rfl ⟨rfl, by decide, by decide⟩ (fun w h Y => PySem.W.kIn_of Y) ?qF K48.law_true
  case qF =>
    intro w mg fa h KX G hmg
    refine' DE.law_chain (h := h) (tbl := K48.tbl) (nc := K48.nc) (C := K48.C) (i := 52) (r := K48.r_law) KX G K48.o_all (List.forall_mem_cons.mpr ⟨DE.top_mk ?qa0 ?ql0 ?qc0 ?qk0, List.forall_mem_cons.mpr ⟨DE.top_mk ?qa1 ?ql1 ?qc1 ?qk1, List.forall_mem_cons.mpr ⟨DE.top_mk ?qa2 ?ql2 ?qc2 ?qk2, List.forall_mem_cons.mpr ⟨DE.top_mk ?qa3 ?ql3 ?qc3 ?qk3, List.forall_mem_cons.mpr ⟨DE.top_mk ?qa4 ?ql4 ?qc4 ?qk4, List.forall_mem_cons.mpr ⟨DE.top_mk ?qa5 ?ql5 ?qc5 ?qk5, List.forall_mem_cons.mpr ⟨DE.top_mk ?qa6 ?ql6 ?qc6 ?qk6, List.forall_mem_cons.mpr ⟨DE.top_mk ?qa7 ?ql7 ?qc7 ?qk7, List.forall_mem_cons.mpr ⟨DE.top_mk ?qa8 ?ql8 ?qc8 ?qk8, List.forall_mem_cons.mpr ⟨DE.top_mk ?qa9 ?ql9 ?qc9 ?qk9, List.forall_mem_cons.mpr ⟨DE.top_mk ?qa10 ?ql10 ?qc10 ?qk10, List.forall_mem_cons.mpr ⟨DE.top_mk ?qa11 ?ql11 ?qc11 ?qk11, List.forall_mem_cons.mpr ⟨DE.top_mk ?qa12 ?ql12 ?qc12 ?qk12, List.forall_mem_cons.mpr ⟨DE.top_mk ?qa13 ?ql13 ?qc13 ?qk13, List.forall_mem_cons.mpr ⟨DE.top_mk ?qa14 ?ql14 ?qc14 ?qk14, List.forall_mem_cons.mpr ⟨DE.top_mk ?qa15 ?ql15 ?qc15 ?qk15, List.forall_mem_cons.mpr ⟨DE.top_mk ?qa16 ?ql16 ?qc16 ?qk16, List.forall_mem_cons.mpr ⟨DE.top_mk ?qa17 ?ql17 ?qc17 ?qk17, List.forall_mem_cons.mpr ⟨DE.top_mk ?qa18 ?ql18 ?qc18 ?qk18, List.forall_mem_cons.mpr ⟨DE.top_mk ?qa19 ?ql19 ?qc19 ?qk19, List.forall_mem_cons.mpr ⟨DE.top_mk ?qa20 ?ql20 ?qc20 ?qk20, List.forall_mem_cons.mpr ⟨DE.top_mk ?qa21 ?ql21 ?qc21 ?qk21, List.forall_mem_cons.mpr ⟨DE.top_mk ?qa22 ?ql22 ?qc22 ?qk22, List.forall_mem_cons.mpr ⟨DE.top_mk ?qa23 ?ql23 ?qc23 ?qk23, List.forall_mem_cons.mpr ⟨DE.top_mk ?qa24 ?ql24 ?qc24 ?qk24, List.forall_mem_cons.mpr ⟨DE.top_mk ?qa25 ?ql25 ?qc25 ?qk25, List.forall_mem_cons.mpr ⟨DE.top_mk ?qa26 ?ql26 ?qc26 ?qk26, List.forall_mem_cons.mpr ⟨DE.top_mk ?qa27 ?ql27 ?qc27 ?qk27, List.forall_mem_cons.mpr ⟨DE.top_mk ?qa28 ?ql28 ?qc28 ?qk28, List.forall_mem_cons.mpr ⟨DE.top_mk ?qa29 ?ql29 ?qc29 ?qk29, List.forall_mem_cons.mpr ⟨DE.top_mk ?qa30 ?ql30 ?qc30 ?qk30, List.forall_mem_cons.mpr ⟨DE.top_mk ?qa31 ?ql31 ?qc31 ?qk31, List.forall_mem_cons.mpr ⟨DE.top_mk ?qa32 ?ql32 ?qc32 ?qk32, List.forall_mem_cons.mpr ⟨DE.top_mk ?qa33 ?ql33 ?qc33 ?qk33, List.forall_mem_cons.mpr ⟨DE.top_mk ?qa34 ?ql34 ?qc34 ?qk34, List.forall_mem_cons.mpr ⟨DE.top_mk ?qa35 ?ql35 ?qc35 ?qk35, List.forall_mem_cons.mpr ⟨DE.top_mk ?qa36 ?ql36 ?qc36 ?qk36, List.forall_mem_cons.mpr ⟨DE.top_mk ?qa37 ?ql37 ?qc37 ?qk37, List.forall_mem_cons.mpr ⟨DE.top_mk ?qa38 ?ql38 ?qc38 ?qk38, List.forall_mem_cons.mpr ⟨DE.top_mk ?qa39 ?ql39 ?qc39 ?qk39, List.forall_mem_cons.mpr ⟨DE.top_mk ?qa40 ?ql40 ?qc40 ?qk40, List.forall_mem_cons.mpr ⟨DE.top_mk ?qa41 ?ql41 ?qc41 ?qk41, List.forall_mem_cons.mpr ⟨DE.top_mk ?qa42 ?ql42 ?qc42 ?qk42, List.forall_mem_cons.mpr ⟨DE.top_mk ?qa43 ?ql43 ?qc43 ?qk43, List.forall_mem_cons.mpr ⟨DE.top_mk ?qa44 ?ql44 ?qc44 ?qk44, List.forall_mem_cons.mpr ⟨DE.top_mk ?qa45 ?ql45 ?qc45 ?qk45, List.forall_mem_cons.mpr ⟨DE.top_mk ?qa46 ?ql46 ?qc46 ?qk46, List.forall_mem_cons.mpr ⟨DE.top_mk ?qa47 ?ql47 ?qc47 ?qk47, List.forall_mem_cons.mpr ⟨DE.top_mk ?qa48 ?ql48 ?qc48 ?qk48, List.forall_mem_cons.mpr ⟨DE.top_mk ?qa49 ?ql49 ?qc49 ?qk49, List.forall_mem_cons.mpr ⟨DE.top_mk ?qa50 ?ql50 ?qc50 ?qk50, List.forall_mem_cons.mpr ⟨DE.top_mk ?qa51 ?ql51 ?qc51 ?qk51, List.forall_mem_cons.mpr ⟨DE.top_mk ?qa52 ?ql52 ?qc52 ?qk52, fun _ h => nomatch h⟩⟩⟩⟩⟩⟩⟩⟩⟩⟩⟩⟩⟩⟩⟩⟩⟩⟩⟩⟩⟩⟩⟩⟩⟩⟩⟩⟩⟩⟩⟩⟩⟩⟩⟩⟩⟩⟩⟩⟩⟩⟩⟩⟩⟩⟩⟩⟩⟩⟩⟩⟩⟩) (K48.blt_mk ?qb0 ?qb1 ?qb2 ?qb3 ?qb4 ?qb5 ?qb6 ?qb7 ?qb8 ?qb9 ?qb10 ?qb11 ?qb12 ?qb13 ?qb14 ?qb15 ?qb16 ?qb17 ?qb18) (fun _ => ?qg) (K48.cst_mk KX G (DE.pair_mk ?qu0 ?qv0) (DE.pair_mk ?qu1 ?qv1) (DE.pp_mk ?qu2 ?qv2 ?qw2 ?qx2)) rfl rfl hmg
    (case qa0 => k_is); (case ql0 => k_is); (case qc0 => k_is); (case qk0 => k_is)
    (case qa1 => k_is); (case ql1 => k_is); (case qc1 => k_is); (case qk1 => k_is)
    (case qa2 => k_is); (case ql2 => k_is); (case qc2 => k_is); (case qk2 => k_is)
    (case qa3 => k_is); (case ql3 => k_is); (case qc3 => k_is); (case qk3 => k_is)
    (case qa4 => k_is); (case ql4 => k_is); (case qc4 => k_is); (case qk4 => k_is)
    (case qa5 => k_is); (case ql5 => k_is); (case qc5 => k_is); (case qk5 => k_is)
    (case qa6 => k_is); (case ql6 => k_is); (case qc6 => k_is); (case qk6 => k_is)
    (case qa7 => k_is); (case ql7 => k_is); (case qc7 => k_is); (case qk7 => k_is)
    (case qa8 => k_is); (case ql8 => k_is); (case qc8 => k_is); (case qk8 => k_is)
    (case qa9 => k_is); (case ql9 => k_is); (case qc9 => k_is); (case qk9 => k_is)
    (case qa10 => k_is); (case ql10 => k_is); (case qc10 => k_is); (case qk10 => k_is)
    (case qa11 => k_is); (case ql11 => k_is); (case qc11 => k_is); (case qk11 => k_is)
    (case qa12 => k_is); (case ql12 => k_is); (case qc12 => k_is); (case qk12 => k_is)
    (case qa13 => k_is); (case ql13 => k_is); (case qc13 => k_is); (case qk13 => k_is)
    (case qa14 => k_is); (case ql14 => k_is); (case qc14 => k_is); (case qk14 => k_is)
    (case qa15 => k_is); (case ql15 => k_is); (case qc15 => k_is); (case qk15 => k_is)
    (case qa16 => k_is); (case ql16 => k_is); (case qc16 => k_is); (case qk16 => k_is)
    (case qa17 => k_is); (case ql17 => k_is); (case qc17 => k_is); (case qk17 => k_is)
    (case qa18 => k_is); (case ql18 => k_is); (case qc18 => k_is); (case qk18 => k_is)
    (case qa19 => k_is); (case ql19 => k_is); (case qc19 => k_is); (case qk19 => k_is)
    (case qa20 => k_is); (case ql20 => k_is); (case qc20 => k_is); (case qk20 => k_is)
    (case qa21 => k_is); (case ql21 => k_is); (case qc21 => k_is); (case qk21 => k_is)
    (case qa22 => k_is); (case ql22 => k_is); (case qc22 => k_is); (case qk22 => k_is)
    (case qa23 => k_is); (case ql23 => k_is); (case qc23 => k_is); (case qk23 => k_is)
    (case qa24 => k_is); (case ql24 => k_is); (case qc24 => k_is); (case qk24 => k_is)
    (case qa25 => k_is); (case ql25 => k_is); (case qc25 => k_is); (case qk25 => k_is)
    (case qa26 => k_is); (case ql26 => k_is); (case qc26 => k_is); (case qk26 => k_is)
    (case qa27 => k_is); (case ql27 => k_is); (case qc27 => k_is); (case qk27 => k_is)
    (case qa28 => k_is); (case ql28 => k_is); (case qc28 => k_is); (case qk28 => k_is)
    (case qa29 => k_is); (case ql29 => k_is); (case qc29 => k_is); (case qk29 => k_is)
    (case qa30 => k_is); (case ql30 => k_is); (case qc30 => k_is); (case qk30 => k_is)
    (case qa31 => k_is); (case ql31 => k_is); (case qc31 => k_is); (case qk31 => k_is)
    (case qa32 => k_is); (case ql32 => k_is); (case qc32 => k_is); (case qk32 => k_is)
    (case qa33 => k_is); (case ql33 => k_is); (case qc33 => k_is); (case qk33 => k_is)
    (case qa34 => k_is); (case ql34 => k_is); (case qc34 => k_is); (case qk34 => k_is)
    (case qa35 => k_is); (case ql35 => k_is); (case qc35 => k_is); (case qk35 => k_is)
    (case qa36 => k_is); (case ql36 => k_is); (case qc36 => k_is); (case qk36 => k_is)
    (case qa37 => k_is); (case ql37 => k_is); (case qc37 => k_is); (case qk37 => k_is)
    (case qa38 => k_is); (case ql38 => k_is); (case qc38 => k_is); (case qk38 => k_is)
    (case qa39 => k_is); (case ql39 => k_is); (case qc39 => k_is); (case qk39 => k_is)
    (case qa40 => k_is); (case ql40 => k_is); (case qc40 => k_is); (case qk40 => k_is)
    (case qa41 => k_is); (case ql41 => k_is); (case qc41 => k_is); (case qk41 => k_is)
    (case qa42 => k_is); (case ql42 => k_is); (case qc42 => k_is); (case qk42 => k_is)
    (case qa43 => k_is); (case ql43 => k_is); (case qc43 => k_is); (case qk43 => k_is)
    (case qa44 => k_is); (case ql44 => k_is); (case qc44 => k_is); (case qk44 => k_is)
    (case qa45 => k_is); (case ql45 => k_is); (case qc45 => k_is); (case qk45 => k_is)
    (case qa46 => k_is); (case ql46 => k_is); (case qc46 => k_is); (case qk46 => k_is)
    (case qa47 => k_is); (case ql47 => k_is); (case qc47 => k_is); (case qk47 => k_is)
    (case qa48 => k_is); (case ql48 => k_is); (case qc48 => k_is); (case qk48 => k_is)
    (case qa49 => k_is); (case ql49 => k_is); (case qc49 => k_is); (case qk49 => k_is)
    (case qa50 => k_is); (case ql50 => k_is); (case qc50 => k_is); (case qk50 => k_is)
    (case qa51 => k_is); (case ql51 => k_is); (case qc51 => k_is); (case qk51 => k_is)
    (case qa52 => k_is); (case ql52 => k_is); (case qc52 => k_is); (case qk52 => k_is)
    (case qb0 => k_is)
    (case qb1 => k_is)
    (case qb2 => k_is)
    (case qb3 => k_is)
    (case qb4 => k_is)
    (case qb5 => k_is)
    (case qb6 => k_is)
    (case qb7 => k_is)
    (case qb8 => k_is)
    (case qb9 => k_is)
    (case qb10 => k_is)
    (case qb11 => k_is)
    (case qb12 => k_is)
    (case qb13 => k_is)
    (case qb14 => k_is)
    (case qb15 => k_is)
    (case qb16 => k_is)
    (case qb17 => k_is)
    (case qb18 => k_is)
    (case qg => k_is)
    (case qu0 => k_is); (case qv0 => k_is)
    (case qu1 => k_is); (case qv1 => k_is)
    (case qu2 => k_is); (case qv2 => k_is); (case qw2 => k_is); (case qx2 => k_is)

