import PyProof.Rows.All
import Wide.All
import OpenK.AllK
import Wide.FinOn
import HandS.ForMost
import HandS.Walk
import HandS.TupAny
import HandS.Wide
import HandS.Flow
import HandS.SortInts
import HandS.Deep
import HandS.Rev
import HandS.Style
import KE.GoesEnum
import HandS.Zip
import HandS.RaiseMore
import HandS.Gcd
import KE.KMathGC
import PySem.Challenge.RW_loopworth_k10_sizes_of_pieces
section
set_option Elab.async false
set_option linter.all false
set_option maxRecDepth 100000
set_option maxHeartbeats 2000000
namespace Lw
open PySem PySem.Spec L2

/-! ### data by value -/
inductive Dt where
  | non | bl (b : Bool) | int (i : Int) | str (s : Str) | tup (ds : List Dt) | lst (ds : List Dt)
  | dct (ks : List Key) (vs : List Dt) | dcx (ks : List (List Key)) (vs : List Dt) | src | cel | rol (ns : List Int)

structure Gh where
  F : Hp
  S : Option (Addr × Addr)
  ad : Nat → Addr

mutual
def Rp (K : PySem.W.Frag) (g : Gh) : Dt → V → Prop
  | .non, v => v = .non
  | .bl b, v => v = .bl b
  | .int i, v => v = .int i
  | .str s, v => v = .str s
  | .tup ds, v => ∃ a xs, v = .ref a ∧ SqT K g.F a xs ∧ RpL K g ds xs
  | .lst ds, v => ∃ a xs, v = .ref a ∧ g.F a = some (.lst xs) ∧ RpL K g ds xs
  | .dct ks ds, v => ∃ a kv, v = .ref a ∧ (∃ od, g.F a = some (.frz od (.dK kv))) ∧ kv.map (·.1) = ks ∧ RpL K g ds (kv.map (·.2))
  | .dcx ks ds, v => ∃ a kv, v = .ref a ∧ (∃ od, g.F a = some (.frz od (.dT kv))) ∧ kv.map (·.1) = ks ∧ RpL K g ds (kv.map (·.2))
  | .src, v => ∃ a c, v = .ref a ∧ g.S = some (a, c)
  | .cel, v => ∃ a c, v = .ref c ∧ g.S = some (a, c)
  | .rol ns, v => ∃ a, v = .ref a ∧ SqL K g.F a (ns.map V.int)
def RpL (K : PySem.W.Frag) (g : Gh) : List Dt → List V → Prop
  | [], [] => True
  | d :: ds, v :: vs => Rp K g d v ∧ RpL K g ds vs
  | _, _ => False
end

structure Gle (g g' : Gh) : Prop where
  F : ∀ a o, g.F a = some o → g'.F a = some o
  S : g.S = none ∨ g'.S = g.S

theorem Gle.refl (g : Gh) : Gle g g := ⟨fun _ _ h => h, .inr rfl⟩
theorem Gle.trans {g h i : Gh} (a : Gle g h) (b : Gle h i) : Gle g i :=
  ⟨fun x o q => b.F x o (a.F x o q), by
    rcases a.S with z | z
    · exact .inl z
    · rcases b.S with y | y
      · exact .inl (z ▸ y)
      · exact .inr (y.trans z)⟩

theorem sqT_mono {K : PySem.W.Frag} {F F' : Hp} {a : Addr} {xs : List V} (h : ∀ a o, F a = some o → F' a = some o) (q : SqT K F a xs) : SqT K F' a xs := by
  rcases q with (q | ⟨o, q⟩) | q
  · exact .inl (.inl (h _ _ q))
  · exact .inl (.inr ⟨o, h _ _ q⟩)
  · exact .inr q
theorem sqL_mono {K : PySem.W.Frag} {F F' : Hp} {a : Addr} {xs : List V} (h : ∀ a o, F a = some o → F' a = some o) (q : SqL K F a xs) : SqL K F' a xs := by
  rcases q with (q | ⟨o, q⟩) | q
  · exact .inl (.inl (h _ _ q))
  · exact .inl (.inr ⟨o, h _ _ q⟩)
  · exact .inr q

mutual
theorem Rp.mono {K : PySem.W.Frag} {g g' : Gh} (h : Gle g g') : ∀ {d : Dt} {v : V}, Rp K g d v → Rp K g' d v
  | .non, _, q => q
  | .bl _, _, q => q
  | .int _, _, q => q
  | .str _, _, q => q
  | .tup ds, _, ⟨a, xs, e, q, r⟩ => ⟨a, xs, e, sqT_mono h.F q, RpL.mono h (ds := ds) r⟩
  | .lst ds, _, ⟨a, xs, e, q, r⟩ => ⟨a, xs, e, h.F _ _ q, RpL.mono h (ds := ds) r⟩
  | .dct ks ds, _, ⟨a, kv, e, ⟨od, q⟩, k, r⟩ => ⟨a, kv, e, ⟨od, h.F _ _ q⟩, k, RpL.mono h (ds := ds) r⟩
  | .dcx ks ds, _, ⟨a, kv, e, ⟨od, q⟩, k, r⟩ => ⟨a, kv, e, ⟨od, h.F _ _ q⟩, k, RpL.mono h (ds := ds) r⟩
  | .src, _, ⟨a, c, e, q⟩ => ⟨a, c, e, by
      rcases h.S with z | z
      · rw [z] at q; cases q
      · rw [z]; exact q⟩
  | .cel, _, ⟨a, c, e, q⟩ => ⟨a, c, e, by
      rcases h.S with z | z
      · rw [z] at q; cases q
      · rw [z]; exact q⟩
  | .rol ns, _, ⟨a, e, q⟩ => ⟨a, e, sqL_mono h.F q⟩
theorem RpL.mono {K : PySem.W.Frag} {g g' : Gh} (h : Gle g g') : ∀ {ds : List Dt} {vs : List V}, RpL K g ds vs → RpL K g' ds vs
  | [], [], _ => trivial
  | d :: ds, v :: vs, ⟨a, b⟩ => ⟨Rp.mono h (d := d) a, RpL.mono h (ds := ds) b⟩
  | [], _ :: _, q => q.elim
  | _ :: _, [], q => q.elim
end

section
variable {K : PySem.W.Frag} {g g' : Gh}
theorem RpL.length : ∀ {ds : List Dt} {vs : List V}, RpL K g ds vs → ds.length = vs.length
  | [], [], _ => rfl
  | _ :: ds, _ :: vs, ⟨_, b⟩ => congrArg (· + 1) (RpL.length b)
  | [], _ :: _, q => q.elim
  | _ :: _, [], q => q.elim
theorem RpL.append : ∀ {ds es : List Dt} {vs us : List V}, RpL K g ds vs → RpL K g es us → RpL K g (ds ++ es) (vs ++ us)
  | [], _, [], _, _, q => q
  | _ :: ds, _, _ :: vs, _, ⟨a, b⟩, q => ⟨a, RpL.append b q⟩
  | [], _, _ :: _, _, q, _ => q.elim
  | _ :: _, _, [], _, q, _ => q.elim
theorem RpL.get : ∀ {ds : List Dt} {vs : List V} {i : Nat} {d : Dt}, RpL K g ds vs → ds[i]? = some d → ∃ v, vs[i]? = some v ∧ Rp K g d v
  | _ :: _, _ :: _, 0, _, ⟨a, _⟩, e => by cases e; exact ⟨_, rfl, a⟩
  | _ :: _, _ :: _, i + 1, _, ⟨_, b⟩, e => RpL.get (i := i) b e
  | [], [], _, _, _, e => by cases e
  | [], _ :: _, _, _, q, _ => q.elim
  | _ :: _, [], _, _, q, _ => q.elim
theorem RpL.get' : ∀ {ds : List Dt} {vs : List V} {i : Nat} {v : V}, RpL K g ds vs → vs[i]? = some v → ∃ d, ds[i]? = some d ∧ Rp K g d v
  | _ :: _, _ :: _, 0, _, ⟨a, _⟩, e => by cases e; exact ⟨_, rfl, a⟩
  | _ :: _, _ :: _, i + 1, _, ⟨_, b⟩, e => RpL.get' (i := i) b e
  | [], [], _, _, _, e => by cases e
  | [], _ :: _, _, _, q, _ => q.elim
  | _ :: _, [], _, _, q, _ => q.elim
theorem RpL.take : ∀ {ds : List Dt} {vs : List V} (n : Nat), RpL K g ds vs → RpL K g (ds.take n) (vs.take n)
  | _, _, 0, _ => by simp [RpL]
  | [], [], _ + 1, _ => trivial
  | _ :: _, _ :: _, n + 1, ⟨a, b⟩ => ⟨a, RpL.take n b⟩
  | [], _ :: _, _ + 1, q => q.elim
  | _ :: _, [], _ + 1, q => q.elim
theorem RpL.drop : ∀ {ds : List Dt} {vs : List V} (n : Nat), RpL K g ds vs → RpL K g (ds.drop n) (vs.drop n)
  | _, _, 0, q => q
  | [], [], _ + 1, _ => trivial
  | _ :: _, _ :: _, n + 1, ⟨_, b⟩ => RpL.drop n b
  | [], _ :: _, _ + 1, q => q.elim
  | _ :: _, [], _ + 1, q => q.elim
theorem RpL.set : ∀ {ds : List Dt} {vs : List V} {d : Dt} {v : V} (i : Nat), RpL K g ds vs → Rp K g d v → RpL K g (ds.set i d) (vs.set i v)
  | [], [], _, _, _, _, _ => trivial
  | _ :: _, _ :: _, _, _, 0, ⟨_, b⟩, q => ⟨q, b⟩
  | _ :: _, _ :: _, _, _, i + 1, ⟨a, b⟩, q => ⟨a, RpL.set i b q⟩
  | [], _ :: _, _, _, _, q, _ => q.elim
  | _ :: _, [], _, _, _, q, _ => q.elim
theorem RpL.reverse : ∀ {ds : List Dt} {vs : List V}, RpL K g ds vs → RpL K g ds.reverse vs.reverse
  | [], [], _ => trivial
  | d :: ds, v :: vs, ⟨a, b⟩ => by
    rw [List.reverse_cons, List.reverse_cons]
    exact (RpL.reverse b).append ⟨a, trivial⟩
  | [], _ :: _, q => q.elim
  | _ :: _, [], q => q.elim
theorem RpL.eraseIdx : ∀ {ds : List Dt} {vs : List V} (i : Nat), RpL K g ds vs → RpL K g (ds.eraseIdx i) (vs.eraseIdx i)
  | [], [], _, _ => trivial
  | _ :: _, _ :: _, 0, ⟨_, b⟩ => b
  | _ :: _, _ :: _, i + 1, ⟨a, b⟩ => ⟨a, RpL.eraseIdx i b⟩
  | [], _ :: _, _, q => q.elim
  | _ :: _, [], _, q => q.elim
theorem RpL.dropLast {ds : List Dt} {vs : List V} (h : RpL K g ds vs) : RpL K g ds.dropLast vs.dropLast := by
  rw [List.dropLast_eq_take, List.dropLast_eq_take, h.length]
  exact h.take _
theorem RpL.ints : ∀ {ns : List Int} {vs : List V}, RpL K g (ns.map Dt.int) vs → vs = ns.map V.int
  | [], [], _ => rfl
  | n :: ns, v :: vs, ⟨a, b⟩ => by
    have a' : v = V.int n := a
    rw [a', RpL.ints b]; rfl
  | [], _ :: _, q => q.elim
  | _ :: _, [], q => q.elim
theorem RpL.of_ints : ∀ {ns : List Int}, RpL K g (ns.map Dt.int) (ns.map V.int)
  | [] => trivial
  | _ :: _ => ⟨rfl, RpL.of_ints⟩
theorem RpL.strs : ∀ {ns : List Str} {vs : List V}, RpL K g (ns.map Dt.str) vs → vs = ns.map V.str
  | [], [], _ => rfl
  | n :: ns, v :: vs, ⟨a, b⟩ => by
    have a' : v = V.str n := a
    rw [a', RpL.strs b]; rfl
  | [], _ :: _, q => q.elim
  | _ :: _, [], q => q.elim
theorem RpL.of_strs : ∀ {ns : List Str}, RpL K g (ns.map Dt.str) (ns.map V.str)
  | [] => trivial
  | _ :: _ => ⟨rfl, RpL.of_strs⟩
end

/-! ### the machine of data -/
structure Sc where
  cells : List Int
  left : Int
  mixed : Int
  turn : Int
abbrev Wd := Option Sc
inductive Sl where
  | fr (d : Dt) | owL (ds : List Dt) | owK (ks : List Key) (vs : List Dt) | owX (ks : List (List Key)) (vs : List Dt)
abbrev En := List (Option Sl)
abbrev M (α : Type) := En → Wd → Option (α × En × Wd)

def srcDict (c : Addr) (s : Sc) : List (Key × V) :=
  [(.inr "cells", .ref c), (.inr "left", .int s.left), (.inr "mixed", .int s.mixed), (.inr "turn", .int s.turn)]
def SrcOk (g : Gh) (H : Hp) : Wd → Prop
  | none => g.S = none
  | some s => ∃ a c, g.S = some (a, c) ∧ a ≠ c ∧ H a = some (.dK (srcDict c s)) ∧ H c = some (.lst (s.cells.map V.int)) ∧ g.F a = none ∧ g.F c = none
def IsSrc (g : Gh) (a : Addr) : Prop := ∃ s c, g.S = some (s, c) ∧ (a = s ∨ a = c)

/-- what stands fixed through a body -/
structure Bs where
  g0 : Gh
  H0 : Hp
  Fr : Hp
  hid : Addr → Prop

/-- a is no one's but this place's -/
structure OwnA (B : Bs) (g : Gh) (a : Addr) : Prop where
  F : g.F a = none
  Fr : B.Fr a = none
  H0 : B.H0 a = none
  hid : ¬ B.hid a
  src : ¬ IsSrc g a

def SlOk (K : PySem.W.Frag) (B : Bs) (g : Gh) (H : Hp) (i : Nat) (o : Option V) : Sl → Prop
  | .fr d => ∃ v, o = some v ∧ Rp K g d v
  | .owL ds => o = some (.ref (g.ad i)) ∧ OwnA B g (g.ad i) ∧ ∃ xs, H (g.ad i) = some (.lst xs) ∧ RpL K g ds xs
  | .owK ks ds => o = some (.ref (g.ad i)) ∧ OwnA B g (g.ad i) ∧ ∃ kv, H (g.ad i) = some (.dK kv) ∧ kv.map (·.1) = ks ∧ RpL K g ds (kv.map (·.2))
  | .owX ks ds => o = some (.ref (g.ad i)) ∧ OwnA B g (g.ad i) ∧ ∃ kv, H (g.ad i) = some (.dT kv) ∧ kv.map (·.1) = ks ∧ RpL K g ds (kv.map (·.2))
def Sl.isOw : Sl → Bool
  | .fr _ => false
  | _ => true
def owAt (ρ : En) (i : Nat) : Prop := ∃ s, ρ[i]? = some (some s) ∧ s.isOw = true

structure Rel (K : PySem.W.Frag) (B : Bs) (g : Gh) (H : Hp) (σ : St) (ρ : En) (w : Wd) : Prop where
  sub : ∀ a o, g.F a = some o → H a = some o
  src : SrcOk g H w
  srcF : ∀ a, IsSrc g a → B.Fr a = none
  keep : ∀ a o, B.Fr a = some o → H a = some o
  old : ∀ a, B.H0 a ≠ none → H a ≠ none
  newF : ∀ a o, g.F a = some o → B.g0.F a = some o ∨ B.H0 a = none
  le : Gle B.g0 g
  srcN : B.g0.S = none → ∀ a, IsSrc g a → B.H0 a = none
  hid : ∀ a, B.hid a → g.F a = none ∧ H a ≠ none ∧ ¬ IsSrc g a
  len : σ.length = ρ.length
  slots : ∀ (i : Nat) s, ρ[i]? = some (some s) → ∃ o, σ[i]? = some o ∧ SlOk K B g H i o s
  sep : ∀ i j, i ≠ j → owAt ρ i → owAt ρ j → g.ad i ≠ g.ad j

/-- new things alone came -/
structure Grow (g : Gh) (H : Hp) (g' : Gh) (H' : Hp) : Prop where
  S : g'.S = g.S
  ad : g'.ad = g.ad
  kH : ∀ a o, H a = some o → H' a = some o
  kF : ∀ a o, g.F a = some o → g'.F a = some o
  new : ∀ a o, g'.F a = some o → g.F a = some o ∨ (H a = none ∧ H' a = some o)
theorem Grow.refl (g : Gh) (H : Hp) : Grow g H g H := ⟨rfl, rfl, fun _ _ h => h, fun _ _ h => h, fun _ _ h => .inl h⟩
theorem Grow.trans {g1 g2 g3 : Gh} {H1 H2 H3 : Hp} (a : Grow g1 H1 g2 H2) (b : Grow g2 H2 g3 H3) : Grow g1 H1 g3 H3 :=
  ⟨b.S.trans a.S, b.ad.trans a.ad, fun x o h => b.kH x o (a.kH x o h), fun x o h => b.kF x o (a.kF x o h), fun x o h => by
    rcases b.new x o h with q | ⟨q1, q2⟩
    · rcases a.new x o q with q | ⟨q1, q2⟩
      · exact .inl q
      · exact .inr ⟨q1, b.kH x o q2⟩
    · refine .inr ⟨?_, q2⟩
      cases e : H1 x with
      | none => rfl
      | some u => rw [a.kH x u e] at q1; cases q1⟩
theorem Grow.le {g : Gh} {H : Hp} {g' : Gh} {H' : Hp} (h : Grow g H g' H') : Gle g g' := ⟨h.kF, .inr h.S⟩
/-- one new object, known from now on -/
def Gh.put (g : Gh) (p : Addr) (o : HO) : Gh := { g with F := upd g.F p o }
theorem Grow.one {g : Gh} {H : Hp} {p : Addr} {o : HO} (hs : ∀ a o, g.F a = some o → H a = some o) (hp : H p = none) : Grow g H (g.put p o) (upd H p o) := by
  refine ⟨rfl, rfl, fun a u h => ?_, fun a u h => ?_, fun a u h => ?_⟩
  · rw [upd_ne (ne_of_none h hp)]; exact h
  · show upd g.F p o a = some u
    rw [upd_ne (ne_of_none (hs _ _ h) hp)]; exact h
  · by_cases e : a = p
    · subst e
      have h' : upd g.F a o a = some u := h
      rw [upd_same] at h'
      exact .inr ⟨hp, by rw [upd_same]; exact h'⟩
    · have h' : upd g.F p o a = some u := h
      rw [upd_ne e] at h'
      exact .inl h'
theorem put_at {g : Gh} {p : Addr} {o : HO} : (g.put p o).F p = some o := upd_same

theorem isSrc_of_S {g g' : Gh} (h : g'.S = g.S) {a : Addr} : IsSrc g' a ↔ IsSrc g a := by
  unfold IsSrc; rw [h]
theorem SrcOk.some_of {g : Gh} {H : Hp} {w : Wd} (h : SrcOk g H w) {a : Addr} (q : IsSrc g a) : (∃ o, H a = some o) ∧ g.F a = none := by
  cases w with
  | none =>
    obtain ⟨s, c, e, _⟩ := q
    have h' : g.S = none := h
    rw [h'] at e; cases e
  | some st =>
    obtain ⟨s, c, e, h2, h3, h4, h5, h6⟩ := h
    obtain ⟨s', c', e', z⟩ := q
    rw [e] at e'; cases e'
    rcases z with rfl | rfl
    · exact ⟨⟨_, h3⟩, h5⟩
    · exact ⟨⟨_, h4⟩, h6⟩

section
variable {K : PySem.W.Frag} {B : Bs} {g g' : Gh} {H H' : Hp} {σ : St} {ρ : En} {w : Wd}
theorem OwnA.grow {a : Addr} (h : OwnA B g a) (hH : H a ≠ none) (G : Grow g H g' H') : OwnA B g' a := by
  refine ⟨?_, h.Fr, h.H0, h.hid, fun q => h.src ((isSrc_of_S G.S).mp q)⟩
  cases e : g'.F a with
  | none => rfl
  | some o =>
    rcases G.new a o e with z | ⟨z, _⟩
    · rw [h.F] at z; cases z
    · exact absurd z hH
theorem SlOk.grow {i : Nat} {o : Option V} {s : Sl} (h : SlOk K B g H i o s) (G : Grow g H g' H') : SlOk K B g' H' i o s := by
  cases s with
  | fr d => obtain ⟨v, e, r⟩ := h; exact ⟨v, e, r.mono G.le⟩
  | owL ds =>
    obtain ⟨e, q, xs, hx, r⟩ := h
    refine ⟨by rw [G.ad]; exact e, by rw [G.ad]; exact q.grow (by rw [hx]; simp) G, xs, by rw [G.ad]; exact G.kH _ _ hx, r.mono G.le⟩
  | owK ks ds =>
    obtain ⟨e, q, xs, hx, k, r⟩ := h
    refine ⟨by rw [G.ad]; exact e, by rw [G.ad]; exact q.grow (by rw [hx]; simp) G, xs, by rw [G.ad]; exact G.kH _ _ hx, k, r.mono G.le⟩
  | owX ks ds =>
    obtain ⟨e, q, xs, hx, k, r⟩ := h
    refine ⟨by rw [G.ad]; exact e, by rw [G.ad]; exact q.grow (by rw [hx]; simp) G, xs, by rw [G.ad]; exact G.kH _ _ hx, k, r.mono G.le⟩
theorem SrcOk.grow (h : SrcOk g H w) (G : Grow g H g' H') : SrcOk g' H' w := by
  cases w with
  | none => exact G.S.trans h
  | some st =>
    have nf : ∀ a, IsSrc g a → g'.F a = none := fun a q => by
      obtain ⟨⟨u, hu⟩, hf⟩ := h.some_of q
      cases e : g'.F a with
      | none => rfl
      | some o =>
        rcases G.new a o e with z | ⟨z, _⟩
        · rw [hf] at z; cases z
        · rw [hu] at z; cases z
    obtain ⟨s, c, e, h2, h3, h4, h5, h6⟩ := h
    exact ⟨s, c, G.S.trans e, h2, G.kH _ _ h3, G.kH _ _ h4, nf s ⟨s, c, e, .inl rfl⟩, nf c ⟨s, c, e, .inr rfl⟩⟩
theorem Rel.grow (R : Rel K B g H σ ρ w) (G : Grow g H g' H') : Rel K B g' H' σ ρ w := by
  have up : ∀ a, H a ≠ none → H' a ≠ none := fun a h => by
    cases e : H a with
    | none => exact absurd e h
    | some o => rw [G.kH a o e]; simp
  refine ⟨fun a o h => ?_, R.src.grow G, fun a q => R.srcF a ((isSrc_of_S G.S).mp q), fun a o h => G.kH _ _ (R.keep a o h), fun a h => up a (R.old a h), fun a o h => ?_, R.le.trans G.le,
    fun e a q => R.srcN e a ((isSrc_of_S G.S).mp q), fun a q => ?_, R.len, fun i s e => ?_, by rw [G.ad]; exact R.sep⟩
  · rcases G.new a o h with z | ⟨_, z⟩
    · exact G.kH _ _ (R.sub _ _ z)
    · exact z
  · rcases G.new a o h with z | ⟨z, _⟩
    · exact R.newF _ _ z
    · refine .inr ?_
      cases e : B.H0 a with
      | none => rfl
      | some u => exact absurd z (R.old a (by rw [e]; simp))
  · obtain ⟨h1, h2, h3⟩ := R.hid a q
    refine ⟨?_, up a h2, fun z => h3 ((isSrc_of_S G.S).mp z)⟩
    cases e : g'.F a with
    | none => rfl
    | some o =>
      rcases G.new a o e with z | ⟨z, _⟩
      · rw [h1] at z; cases z
      · exact absurd z h2
  · obtain ⟨o, e1, h1⟩ := R.slots i s e
    exact ⟨o, e1, h1.grow G⟩
end

/-! ### what an expression gives -/
def tE (K : PySem.W.Frag) (f : M Dt) : TE := fun σ H Q => ∃ B g ρ w d ρ' w', Rel K B g H σ ρ w ∧ f ρ w = some (d, ρ', w') ∧
  ∀ v g' H', Rel K B g' H' σ ρ' w' → Gle g g' → Rp K g' d v → Q v H'
abbrev SE (X : Cx) (e : Expr) (f : M Dt) : Prop := PE X e (tE X.K f)

/-- a value, or what stands in a slot when it is read -/
inductive RV where
  | val (d : Dt) | slot (i : Nat)
def RvOk (K : PySem.W.Frag) (g : Gh) (σ : St) : RV → V → Prop
  | .val d, v => Rp K g d v
  | .slot i, v => σ[i]? = some (some v)
def Sl.dt : Sl → Dt
  | .fr d => d
  | .owL ds => .lst ds
  | .owK ks vs => .dct ks vs
  | .owX ks vs => .dcx ks vs
def rd (r : RV) (ρ : En) : Option Dt := match r with
  | .val d => some d
  | .slot i => match ρ[i]? with
    | some (some s) => some s.dt
    | _ => none
def Vw (K : PySem.W.Frag) (g : Gh) (H : Hp) (d : Dt) (v : V) : Prop := match d with
  | .lst ds => ∃ a xs, v = .ref a ∧ H a = some (.lst xs) ∧ RpL K g ds xs
  | .dct ks ds => ∃ a kv, v = .ref a ∧ Rd H a (.dK kv) ∧ kv.map (·.1) = ks ∧ RpL K g ds (kv.map (·.2))
  | .dcx ks ds => ∃ a kv, v = .ref a ∧ Rd H a (.dT kv) ∧ kv.map (·.1) = ks ∧ RpL K g ds (kv.map (·.2))
  | d => Rp K g d v
def tR (K : PySem.W.Frag) (f : M RV) : TE := fun σ H Q => ∃ B g ρ w d ρ' w', Rel K B g H σ ρ w ∧ f ρ w = some (d, ρ', w') ∧
  ∀ v g' H', Rel K B g' H' σ ρ' w' → Gle g g' → RvOk K g' σ d v → Q v H'
abbrev SR (X : Cx) (e : Expr) (f : M RV) : Prop := PE X e (tR X.K f)

section
variable {K : PySem.W.Frag} {B : Bs} {g g' : Gh} {H H' : Hp} {σ : St} {ρ : En} {w : Wd}
theorem Rp.vw {d : Dt} {v : V} (hs : ∀ a o, g.F a = some o → H a = some o) (h : Rp K g d v) : Vw K g H d v := by
  cases d with
  | lst ds => obtain ⟨a, xs, e, q, r⟩ := h; exact ⟨a, xs, e, hs _ _ q, r⟩
  | dct ks ds => obtain ⟨a, xs, e, ⟨od, q⟩, k, r⟩ := h; exact ⟨a, xs, e, .inr ⟨od, hs _ _ q⟩, k, r⟩
  | dcx ks ds => obtain ⟨a, xs, e, ⟨od, q⟩, k, r⟩ := h; exact ⟨a, xs, e, .inr ⟨od, hs _ _ q⟩, k, r⟩
  | _ => exact h
theorem RvOk.mono {r : RV} {v : V} (h : RvOk K g σ r v) (l : Gle g g') : RvOk K g' σ r v := by
  cases r with
  | val d => exact Rp.mono l h
  | slot i => exact h
theorem Rel.view {r : RV} {v : V} {d : Dt} (R : Rel K B g H σ ρ w) (h : RvOk K g σ r v) (e : rd r ρ = some d) : Vw K g H d v := by
  cases r with
  | val d' =>
    have e' : some d' = some d := e
    cases e'
    exact Rp.vw R.sub h
  | slot i =>
    have h' : σ[i]? = some (some v) := h
    unfold rd at e
    simp only at e
    split at e
    · rename_i s hs
      cases e
      obtain ⟨o, ho, q⟩ := R.slots i s hs
      rw [h'] at ho; cases ho
      cases s with
      | fr d => obtain ⟨u, eu, r⟩ := q; cases eu; exact Rp.vw R.sub r
      | owL ds => obtain ⟨eu, _, xs, hx, r⟩ := q; cases eu; exact ⟨_, xs, rfl, hx, r⟩
      | owK ks ds => obtain ⟨eu, _, xs, hx, k, r⟩ := q; cases eu; exact ⟨_, xs, rfl, .inl hx, k, r⟩
      | owX ks ds => obtain ⟨eu, _, xs, hx, k, r⟩ := q; cases eu; exact ⟨_, xs, rfl, .inl hx, k, r⟩
    · cases e
end

/-- weaken what is asked -/
theorem pe_weak {X : Cx} {e : Expr} {t u : TE} (h : PE X e t) (k : ∀ σ H Q, u σ H Q → t σ H Q) : PE X e u := ⟨fun pins s σ H Q I q => h.run pins s σ H Q I (k σ H Q q)⟩
/-- the value's object is locked from then on -/
theorem pe_seal {X : Cx} {e : Expr} {t : TE} (h : PE X e t) : PE X e (fun σ H Q => t σ H fun v H1 => Q v H1 ∨ ∃ a u, H1 a = some u ∧ Mut (some u) ∧ ∀ od, Q v (upd H1 a (.frz od u))) := ⟨fun pins s σ H Q I q => by
  refine thn (h.run pins s σ H _ I q) fun v s1 ⟨x, H1, I1, rx, q1⟩ => ?_
  rcases q1 with q1 | ⟨a, u, ha, mu, q1⟩
  · exact ⟨x, H1, I1, rx, q1⟩
  · obtain ⟨od, I2⟩ := I1.lock ha mu
    exact ⟨x, _, I2, rx, q1 od⟩⟩
theorem pt_weak {X : Cx} {e : Expr} {t u : TT} (h : PT X e t) (k : ∀ σ H Q, u σ H Q → t σ H Q) : PT X e u := ⟨fun pins s σ H Q I q => h.run pins s σ H Q I (k σ H Q q)⟩
theorem pw_weak {X : Cx} {e : Expr} {t u : TT} (h : PW X e t) (k : ∀ σ H Q, u σ H Q → t σ H Q) : PW X e u := ⟨fun wh pins s σ H Q I q => h.run wh pins s σ H Q I (k σ H Q q)⟩
theorem pa_weak {X : Cx} {e : List Expr} {t u : TA} (h : PA X e t) (k : ∀ σ H Q, u σ H Q → t σ H Q) : PA X e u := ⟨fun pos pins s σ H Q I q => h.run pos pins s σ H Q I (k σ H Q q)⟩
theorem ps_weak {X : Cx} {e : Stmt} {t u : TS} (h : PS X e t) (k : ∀ D σ H, u D σ H → t D σ H) : PS X e u := ⟨fun pins s σ H D I q => h.run pins s σ H D I (k D σ H q)⟩
theorem pss_weak {X : Cx} {e : List Stmt} {t u : TS} (h : PSs X e t) (k : ∀ D σ H, u D σ H → t D σ H) : PSs X e u := ⟨fun pins s σ H D I q => h.run pins s σ H D I (k D σ H q)⟩

/-! ### the combinators -/
def mRet {α : Type} (a : α) : M α := fun ρ w => some (a, ρ, w)
def mBind {α β : Type} (f : M α) (k : α → M β) : M β := fun ρ w => match f ρ w with
  | some (a, ρ1, w1) => k a ρ1 w1
  | none => none
def mFail {α : Type} : M α := fun _ _ => none
theorem mBind_some {α β : Type} {f : M α} {k : α → M β} {ρ : En} {w : Wd} {r : β × En × Wd} (h : mBind f k ρ w = some r) : ∃ a ρ1 w1, f ρ w = some (a, ρ1, w1) ∧ k a ρ1 w1 = some r := by
  unfold mBind at h
  split at h
  · rename_i a ρ1 w1 e; exact ⟨a, ρ1, w1, e, h⟩
  · cases h
def fLit (d : Dt) : M Dt := mRet d
/-- a name, handed on: what was its own is known from now on -/
def fVar (i : Nat) : M Dt := fun ρ w => match ρ[i]? with
  | some (some (.fr d)) => some (d, ρ, w)
  | some (some s) => some (s.dt, ρ.set i (some (.fr s.dt)), w)
  | _ => none
def rVal (f : M Dt) : M RV := mBind f fun d => mRet (.val d)
/-- a name, looked at -/
def rVar (i : Nat) : M RV := fun ρ w => match ρ[i]? with
  | some (some _) => some (.slot i, ρ, w)
  | _ => none
def fRd (f : M RV) : M Dt := mBind f fun r ρ w => match rd r ρ with
  | some d => some (d, ρ, w)
  | none => none
def mRd (r : RV) : M Dt := fun ρ w => match rd r ρ with
  | some d => some (d, ρ, w)
  | none => none
def mLift {α : Type} (o : Option α) : M α := fun ρ w => match o with
  | some a => some (a, ρ, w)
  | none => none
theorem mLift_some {α : Type} {o : Option α} {ρ ρ' : En} {w w' : Wd} {r : α} (h : mLift o ρ w = some (r, ρ', w')) : o = some r ∧ ρ' = ρ ∧ w' = w := by
  unfold mLift at h
  split at h
  · cases h; exact ⟨rfl, rfl, rfl⟩
  · cases h
theorem mRd_some {a : RV} {ρ ρ' : En} {w w' : Wd} {r : Dt} (h : mRd a ρ w = some (r, ρ', w')) : rd a ρ = some r ∧ ρ' = ρ ∧ w' = w := by
  unfold mRd at h
  split at h
  · rename_i d e; cases h; exact ⟨e, rfl, rfl⟩
  · cases h
def fOp2 (φ : Dt → Dt → Option Dt) (fa fb : M RV) : M Dt := mBind fa fun a => mBind fb fun b => mBind (mRd a) fun x => mBind (mRd b) fun y => mLift (φ x y)
def fOp1 (φ : Dt → Option Dt) (fa : M RV) : M Dt := mBind fa fun a => mBind (mRd a) fun x => mLift (φ x)

end Lw

end
section
set_option Elab.async false
set_option linter.all false
set_option maxRecDepth 100000
set_option maxHeartbeats 2000000
namespace Lw
open PySem PySem.Spec L2

section
variable {K : PySem.W.Frag} {B : Bs} {g g' : Gh} {H H' : Hp} {σ : St} {ρ : En} {w : Wd}
theorem OwnA.put {a p : Addr} {o : HO} (h : OwnA B g a) (ne : a ≠ p) : OwnA B (g.put p o) a :=
  ⟨by show upd g.F p o a = none; rw [upd_ne ne]; exact h.F, h.Fr, h.H0, h.hid, h.src⟩
theorem Gle.put {p : Addr} {o : HO} (hp : g.F p = none) : Gle g (g.put p o) :=
  ⟨fun a u h => by show upd g.F p o a = some u; rw [upd_ne (fun e => by rw [e, hp] at h; cases h)]; exact h, .inr rfl⟩
theorem SlOk.put {i : Nat} {v : Option V} {s : Sl} {p : Addr} {o : HO} (h : SlOk K B g H i v s) (hp : g.F p = none) (ne : s.isOw = true → g.ad i ≠ p) : SlOk K B (g.put p o) H i v s := by
  cases s with
  | fr d => obtain ⟨u, e, r⟩ := h; exact ⟨u, e, r.mono (Gle.put hp)⟩
  | owL ds => obtain ⟨e, q, xs, hx, r⟩ := h; exact ⟨e, q.put (ne rfl), xs, hx, r.mono (Gle.put hp)⟩
  | owK ks ds => obtain ⟨e, q, xs, hx, k, r⟩ := h; exact ⟨e, q.put (ne rfl), xs, hx, k, r.mono (Gle.put hp)⟩
  | owX ks ds => obtain ⟨e, q, xs, hx, k, r⟩ := h; exact ⟨e, q.put (ne rfl), xs, hx, k, r.mono (Gle.put hp)⟩
theorem SlOk.own {i : Nat} {v : Option V} {s : Sl} (h : SlOk K B g H i v s) (ow : s.isOw = true) : v = some (.ref (g.ad i)) ∧ OwnA B g (g.ad i) ∧ ∃ o, H (g.ad i) = some o := by
  cases s with
  | fr d => cases ow
  | owL ds => obtain ⟨e, q, xs, hx, r⟩ := h; exact ⟨e, q, _, hx⟩
  | owK ks ds => obtain ⟨e, q, xs, hx, k, r⟩ := h; exact ⟨e, q, _, hx⟩
  | owX ks ds => obtain ⟨e, q, xs, hx, k, r⟩ := h; exact ⟨e, q, _, hx⟩
/-- an address of one's own becomes known; the slots s' all hold -/
theorem Rel.know {ρ' : En} {p : Addr} {o : HO} (R : Rel K B g H σ ρ w) (hp : OwnA B g p) (hH : H p = some o) (hl : ρ'.length = ρ.length)
    (hs : ∀ i s, ρ'[i]? = some (some s) → ∃ v, σ[i]? = some v ∧ SlOk K B (g.put p o) H i v s) (hsep : ∀ i j, i ≠ j → owAt ρ' i → owAt ρ' j → g.ad i ≠ g.ad j) : Rel K B (g.put p o) H σ ρ' w := by
  refine ⟨fun a u h => ?_, ?_, R.srcF, R.keep, R.old, fun a u h => ?_, R.le.trans (Gle.put hp.F), R.srcN, fun a q => ?_, R.len.trans hl.symm, hs, hsep⟩
  · have h' : upd g.F p o a = some u := h
    by_cases e : a = p
    · subst e; rw [upd_same] at h'; cases h'; exact hH
    · rw [upd_ne e] at h'; exact R.sub _ _ h'
  · cases w with
    | none => exact R.src
    | some st =>
      obtain ⟨s, c, e, h2, h3, h4, h5, h6⟩ := R.src
      have n1 : s ≠ p := fun z => hp.src ⟨s, c, e, .inl z.symm⟩
      have n2 : c ≠ p := fun z => hp.src ⟨s, c, e, .inr z.symm⟩
      exact ⟨s, c, e, h2, h3, h4, by show upd g.F p o s = none; rw [upd_ne n1]; exact h5, by show upd g.F p o c = none; rw [upd_ne n2]; exact h6⟩
  · have h' : upd g.F p o a = some u := h
    by_cases e : a = p
    · subst e; exact .inr hp.H0
    · rw [upd_ne e] at h'; exact R.newF _ _ h'
  · obtain ⟨h1, h2, h3⟩ := R.hid a q
    refine ⟨?_, h2, h3⟩
    have ne : a ≠ p := fun z => hp.hid (z ▸ q)
    show upd g.F p o a = none
    rw [upd_ne ne]; exact h1
theorem owAt_set {i : Nat} {d : Dt} {j : Nat} (h : owAt (ρ.set i (some (.fr d))) j) : owAt ρ j ∧ j ≠ i := by
  obtain ⟨s, e, o⟩ := h
  by_cases z : j = i
  · subst z
    rw [List.getElem?_set] at e
    split at e
    · split at e
      · cases e; cases o
      · cases e
    · rename_i n; exact absurd rfl n
  · rw [List.getElem?_set_ne (Ne.symm z)] at e
    exact ⟨⟨s, e, o⟩, z⟩
/-- the slot is given up -/
theorem Rel.drop {i : Nat} (R : Rel K B g H σ ρ w) : Rel K B g H σ (ρ.set i none) w := by
  have low : ∀ {j s}, (ρ.set i none)[j]? = some (some s) → ρ[j]? = some (some s) ∧ j ≠ i := fun {j s} e => by
    by_cases z : j = i
    · subst z
      rw [List.getElem?_set] at e
      split at e
      · split at e <;> cases e
      · rename_i n; exact absurd rfl n
    · rw [List.getElem?_set_ne (Ne.symm z)] at e
      exact ⟨e, z⟩
  exact ⟨R.sub, R.src, R.srcF, R.keep, R.old, R.newF, R.le, R.srcN, R.hid, by simp [R.len], fun j s e => R.slots j s (low e).1, fun j k n ⟨s, a, x⟩ ⟨t, b, y⟩ => R.sep j k n ⟨s, (low a).1, x⟩ ⟨t, (low b).1, y⟩⟩
/-- an object that is this body's alone, and no slot's, is written -/
theorem Rel.updOwn {p : Addr} {o u : HO} (R : Rel K B g H σ ρ w) (hp : H p = some o) (own : OwnA B g p) (ne : ∀ j, owAt ρ j → g.ad j ≠ p) : Rel K B g (upd H p u) σ ρ w := by
  have some' : ∀ a, H a ≠ none → upd H p u a ≠ none := fun a h => by
    by_cases z : a = p
    · subst z; rw [upd_same]; simp
    · rw [upd_ne z]; exact h
  refine ⟨fun a v h => ?_, ?_, R.srcF, fun a v h => ?_, fun a h => some' a (R.old a h), R.newF, R.le, R.srcN, fun a h => ?_, R.len, fun j q ej => ?_, R.sep⟩
  · rw [upd_ne fun z => by rw [z, own.F] at h; cases h]; exact R.sub _ _ h
  · cases w with
    | none => exact R.src
    | some st =>
      obtain ⟨a, c, h1, h2, h3, h4, h5, h6⟩ := R.src
      refine ⟨a, c, h1, h2, ?_, ?_, h5, h6⟩
      · rw [upd_ne fun z => own.src ⟨a, c, h1, .inl z.symm⟩]; exact h3
      · rw [upd_ne fun z => own.src ⟨a, c, h1, .inr z.symm⟩]; exact h4
  · rw [upd_ne fun z => by rw [z, own.Fr] at h; cases h]; exact R.keep _ _ h
  · obtain ⟨h1, h2, h3⟩ := R.hid a h
    exact ⟨h1, some' a h2, h3⟩
  · obtain ⟨v, ev, qv⟩ := R.slots j q ej
    refine ⟨v, ev, ?_⟩
    cases q with
    | fr d => exact qv
    | owL ds => obtain ⟨h1, h2, xs, hx, r⟩ := qv; exact ⟨h1, h2, xs, by rw [upd_ne (ne j ⟨_, ej, rfl⟩)]; exact hx, r⟩
    | owK ks ds => obtain ⟨h1, h2, xs, hx, r⟩ := qv; exact ⟨h1, h2, xs, by rw [upd_ne (ne j ⟨_, ej, rfl⟩)]; exact hx, r⟩
    | owX ks ds => obtain ⟨h1, h2, xs, hx, r⟩ := qv; exact ⟨h1, h2, xs, by rw [upd_ne (ne j ⟨_, ej, rfl⟩)]; exact hx, r⟩
/-- a known value comes to an empty slot -/
theorem Rel.fill {i : Nat} {d : Dt} {v : V} (R : Rel K B g H σ (ρ.set i none) w) (ev : σ[i]? = some (some v)) (r : Rp K g d v) : Rel K B g H σ (ρ.set i (some (.fr d))) w := by
  refine ⟨R.sub, R.src, R.srcF, R.keep, R.old, R.newF, R.le, R.srcN, R.hid, by have := R.len; simpa using this, fun j s e => ?_, fun j k n a b => ?_⟩
  · by_cases z : j = i
    · subst z
      rw [List.getElem?_set] at e
      split at e
      · split at e
        · cases e; exact ⟨_, ev, v, rfl, r⟩
        · cases e
      · rename_i n; exact absurd rfl n
    · rw [List.getElem?_set_ne (Ne.symm z)] at e
      exact R.slots j s (by rw [List.getElem?_set_ne (Ne.symm z)]; exact e)
  · have up : ∀ {j}, owAt (ρ.set i (some (.fr d))) j → owAt (ρ.set i none) j := fun {j} h => by
      obtain ⟨⟨s, e, o⟩, z⟩ := owAt_set h
      exact ⟨s, by rw [List.getElem?_set_ne (Ne.symm z)]; exact e, o⟩
    exact R.sep j k n (up a) (up b)
/-- what a slot's own list or dict is worth as a value: a dict is locked from then on -/
def Lk (u : HO) (u' : HO) : Prop := (u' = u ∧ ∃ xs, u = .lst xs) ∨ ∃ od, u' = .frz od u
theorem Rel.freeze {i : Nat} {s : Sl} (R : Rel K B g H σ ρ w) (e : ρ[i]? = some (some s)) (ow : s.isOw = true) :
    σ[i]? = some (some (.ref (g.ad i))) ∧ ∃ u, H (g.ad i) = some u ∧ ((∃ g', Rel K B g' H σ (ρ.set i (some (.fr s.dt))) w ∧ Gle g g' ∧ Rp K g' s.dt (.ref (g.ad i))) ∨
      Mut (some u) ∧ ∀ od, ∃ g', Rel K B g' (upd H (g.ad i) (.frz od u)) σ (ρ.set i (some (.fr s.dt))) w ∧ Gle g g' ∧ Rp K g' s.dt (.ref (g.ad i))) := by
  obtain ⟨v, ev, q⟩ := R.slots i s e
  obtain ⟨ev', qo, o, ho⟩ := q.own ow
  subst ev'
  refine ⟨ev, o, ho, ?_⟩
  have ne : ∀ j, owAt (ρ.set i none) j → g.ad j ≠ g.ad i := fun j ⟨t, et, ot⟩ z => by
    by_cases y : j = i
    · subst y
      rw [List.getElem?_set] at et
      split at et
      · split at et <;> cases et
      · rename_i n; exact absurd rfl n
    · rw [List.getElem?_set_ne (Ne.symm y)] at et
      exact R.sep j i y ⟨t, et, ot⟩ ⟨s, e, ow⟩ z
  have R0 := R.drop (i := i)
  have kn : ∀ (H' : Hp) (o' : HO), Rel K B g H' σ (ρ.set i none) w → H' (g.ad i) = some o' → Rel K B (g.put (g.ad i) o') H' σ (ρ.set i none) w := fun H' o' R1 h1 =>
    R1.know qo h1 rfl (fun j t et => by
      obtain ⟨u, eu, qu⟩ := R1.slots j t et
      exact ⟨u, eu, qu.put qo.F fun h => ne j ⟨t, et, h⟩⟩) R1.sep
  cases s with
  | fr d => cases ow
  | owL ds =>
    obtain ⟨_, _, xs, hx, r⟩ := q
    rw [ho] at hx; cases hx
    have rp : Rp K (g.put (g.ad i) (.lst xs)) (.lst ds) (.ref (g.ad i)) := ⟨_, xs, rfl, put_at, r.mono (Gle.put qo.F)⟩
    exact .inl ⟨_, (kn H _ R0 ho).fill ev rp, Gle.put qo.F, rp⟩
  | owK ks ds =>
    obtain ⟨_, _, xs, hx, k, r⟩ := q
    rw [ho] at hx; cases hx
    refine .inr ⟨trivial, fun od => ?_⟩
    have rp : Rp K (g.put (g.ad i) (.frz od (.dK xs))) (.dct ks ds) (.ref (g.ad i)) := ⟨_, xs, rfl, ⟨od, put_at⟩, k, r.mono (Gle.put qo.F)⟩
    exact ⟨_, (kn _ _ (R0.updOwn ho qo ne) upd_same).fill ev rp, Gle.put qo.F, rp⟩
  | owX ks ds =>
    obtain ⟨_, _, xs, hx, k, r⟩ := q
    rw [ho] at hx; cases hx
    refine .inr ⟨trivial, fun od => ?_⟩
    have rp : Rp K (g.put (g.ad i) (.frz od (.dT xs))) (.dcx ks ds) (.ref (g.ad i)) := ⟨_, xs, rfl, ⟨od, put_at⟩, k, r.mono (Gle.put qo.F)⟩
    exact ⟨_, (kn _ _ (R0.updOwn ho qo ne) upd_same).fill ev rp, Gle.put qo.F, rp⟩
end

/-! ### names, constants -/
section
variable {X : Cx} {pos : Pos}
theorem se_int {i : Int} {j : Nat} : SE X (.Constant (.int i) j pos) (fLit (.int i)) := pe_weak pe_int fun σ H Q ⟨B, g, ρ, w, d, ρ', w', R, e, k⟩ => by
  cases e; exact k _ g H R (.refl g) rfl
theorem se_bl {b : Bool} {j : Nat} : SE X (.Constant (.bool b) j pos) (fLit (.bl b)) := pe_weak pe_bl fun σ H Q ⟨B, g, ρ, w, d, ρ', w', R, e, k⟩ => by
  cases e; exact k _ g H R (.refl g) rfl
theorem se_non {j : Nat} : SE X (.Constant .none j pos) (fLit .non) := pe_weak pe_non fun σ H Q ⟨B, g, ρ, w, d, ρ', w', R, e, k⟩ => by
  cases e; exact k _ g H R (.refl g) rfl
theorem se_str {s : Str} {j : Nat} : SE X (.Constant (.str s) j pos) (fLit (.str s)) := pe_weak pe_str fun σ H Q ⟨B, g, ρ, w, d, ρ', w', R, e, k⟩ => by
  cases e; exact k _ g H R (.refl g) rfl
theorem se_var (i : Nat) {x : Str} (hN : X.N[i]? = some x := by rfl) (hv : Vis X.env.scope x := by first | exact Or.inl rfl | exact Or.inr (Or.inl rfl) | exact Or.inr (Or.inr rfl)) (hd : (x == ("__debug__" : Str)) = false := by decide)
    (hcd : (x == ("__classdict__" : Str)) = false := by decide) : SE X (.Name x pos) (fVar i) := pe_weak (pe_seal (pe_var (i := i) hN hv hd hcd)) fun σ H Q ⟨B, g, ρ, w, d, ρ', w', R, e, k⟩ => by
  unfold fVar at e
  split at e
  · rename_i d' hd'
    cases e
    obtain ⟨o, eo, v, ev, r⟩ := R.slots i _ hd'
    subst ev
    exact ⟨v, eo, .inl (k v g H R (.refl g) r)⟩
  · rename_i s hn hs
    cases e
    have ow : s.isOw = true := by
      cases s with
      | fr d => exact (hn d rfl).elim
      | _ => rfl
    obtain ⟨es, u, hu, z⟩ := R.freeze hs ow
    refine ⟨_, es, ?_⟩
    rcases z with ⟨g', R', l, r⟩ | ⟨mu, z⟩
    · exact .inl (k _ g' H R' l r)
    · refine .inr ⟨_, u, hu, mu, fun od => ?_⟩
      obtain ⟨g', R', l, r⟩ := z od
      exact k _ g' _ R' l r
  · cases e
theorem sr_var (i : Nat) {x : Str} (hN : X.N[i]? = some x := by rfl) (hv : Vis X.env.scope x := by first | exact Or.inl rfl | exact Or.inr (Or.inl rfl) | exact Or.inr (Or.inr rfl)) (hd : (x == ("__debug__" : Str)) = false := by decide)
    (hcd : (x == ("__classdict__" : Str)) = false := by decide) : SR X (.Name x pos) (rVar i) := pe_weak (pe_var (i := i) hN hv hd hcd) fun σ H Q ⟨B, g, ρ, w, d, ρ', w', R, e, k⟩ => by
  unfold rVar at e
  split at e
  · rename_i s hs
    cases e
    obtain ⟨o, eo, q⟩ := R.slots i s hs
    have : ∃ v, o = some v := by
      cases s with
      | fr d => obtain ⟨v, ev, _⟩ := q; exact ⟨v, ev⟩
      | owL ds => exact ⟨_, q.1⟩
      | owK ks ds => exact ⟨_, q.1⟩
      | owX ks ds => exact ⟨_, q.1⟩
    obtain ⟨v, rfl⟩ := this
    exact ⟨v, eo, k v g H R (.refl g) eo⟩
  · cases e
theorem sr_val {e : Expr} {f : M Dt} (h : SE X e f) : SR X e (rVal f) := pe_weak h fun σ H Q ⟨B, g, ρ, w, d, ρ', w', R, e, k⟩ => by
  obtain ⟨x, ρ1, w1, e1, e2⟩ := mBind_some e
  cases e2
  exact ⟨B, g, ρ, w, x, ρ', w', R, e1, fun v g' H' R' l r => k v g' H' R' l r⟩
/-- what is only looked at, as a value: no list or dict of one's own -/
def isAtom : Dt → Bool
  | .lst _ => false
  | .dct _ _ => false
  | .dcx _ _ => false
  | _ => true

/-! ### operators -/
def Gives (K : PySem.W.Frag) (g : Gh) (H : Hp) (d : Dt) (Q : VK) : Prop := ∀ v g' H', Grow g H g' H' → Rp K g' d v → Q v H'
def Op2 (K : PySem.W.Frag) (r : R2) (φ : Dt → Dt → Option Dt) : Prop :=
  ∀ (g : Gh) (H : Hp) (x y : V) (dx dy d : Dt) (Q : VK), (∀ a o, g.F a = some o → H a = some o) → Vw K g H dx x → Vw K g H dy y → φ dx dy = some d → Gives K g H d Q → r x y H Q
variable {a b : Expr} {fa fb : M RV}
theorem op2_read {K : PySem.W.Frag} {r : R2} {φ : Dt → Dt → Option Dt} (hr : Op2 K r φ) {σ : St} {H : Hp} {Q : VK} (h : tE K (fOp2 φ fa fb) σ H Q) : tOp r (tR K fa) (tR K fb) σ H Q := by
  obtain ⟨B, g, ρ, w, d, ρ', w', R, e, k⟩ := h
  obtain ⟨ra, ρ1, w1, e1, f1⟩ := mBind_some e
  obtain ⟨rb, ρ2, w2, e2, f2⟩ := mBind_some f1
  obtain ⟨da, ρ3, w3, e3, f3⟩ := mBind_some f2
  obtain ⟨h3, rfl, rfl⟩ := mRd_some e3
  obtain ⟨db, ρ4, w4, e4, f4⟩ := mBind_some f3
  obtain ⟨h4, rfl, rfl⟩ := mRd_some e4
  obtain ⟨h5, rfl, rfl⟩ := mLift_some f4
  refine ⟨B, g, ρ, w, ra, ρ1, w1, R, e1, fun x g1 H1 R1 l1 q1 => ?_⟩
  refine ⟨B, g1, ρ1, w1, rb, _, _, R1, e2, fun y g2 H2 R2 l2 q2 => ?_⟩
  exact hr g2 H2 x y da db d Q R2.sub (R2.view (q1.mono l2) h3) (R2.view q2 h4) h5 fun v g' H' G rp => k v g' H' (R2.grow G) (l1.trans (l2.trans G.le)) rp
theorem se_op {op : Operator} {r : R2} {φ : Dt → Dt → Option Dt} (ho : OpR X (binaryOp op) r) (hr : Op2 X.K r φ) (ha : SR X a fa) (hb : SR X b fb) : SE X (.BinOp a op b pos) (fOp2 φ fa fb) :=
  pe_weak (pe_op ho ha hb) fun _ _ _ h => op2_read hr h
theorem se_cmp {op : CmpOp} {r : R2} {φ : Dt → Dt → Option Dt} (ho : OpR X (compareOp op) r) (hr : Op2 X.K r φ) (ha : SR X a fa) (hb : SR X b fb) (hm : behindInMarks op b = false := by first | exact nomark _ | rfl) : SE X (.Compare a [op] [b] pos) (fOp2 φ fa fb) :=
  pe_weak (pe_cmpR ho ha hb hm) fun _ _ _ h => op2_read hr h
/-- a test gives a truth value -/
def tT (K : PySem.W.Frag) (f : M Bool) : TT := fun σ H Q => ∃ B g ρ w d ρ' w', Rel K B g H σ ρ w ∧ f ρ w = some (d, ρ', w') ∧
  ∀ g' H', Rel K B g' H' σ ρ' w' → Gle g g' → Q d H'
abbrev ST (X : Cx) (e : Expr) (f : M Bool) : Prop := PT X e (tT X.K f)
abbrev SW (X : Cx) (e : Expr) (f : M Bool) : Prop := PW X e (tT X.K f)
def asB : Dt → Option Bool
  | .bl b => some b
  | _ => none
def cB (f : M Dt) : M Bool := mBind f fun d => mLift (asB d)
theorem asB_some {d : Dt} {b : Bool} (h : asB d = some b) : d = .bl b := by
  cases d <;> first | (cases h; rfl) | cases h
theorem st_val {e : Expr} {f : M Dt} (h : SE X e f) (he : ∀ whole, isTrue e X.env whole = (do let v ← whole; standAt e.pos; holding [v] (truthy v)) := by intro _; rfl) : ST X e (cB f) :=
  pt_weak (pt_val h he) fun σ H Q ⟨B, g, ρ, w, d, ρ', w', R, e, k⟩ => by
    obtain ⟨x, ρ1, w1, e1, e2⟩ := mBind_some e
    obtain ⟨h5, rfl, rfl⟩ := mLift_some e2
    rw [asB_some h5] at e1
    exact ⟨B, g, ρ, w, _, _, _, R, e1, fun v g' H' R' l r => ⟨d, r, k g' H' R' l⟩⟩
theorem st_cmp {op : CmpOp} {r : R2} {φ : Dt → Dt → Option Dt} (ho : OpR X (compareOp op) r) (hr : Op2 X.K r φ) (ha : SR X a fa) (hb : SR X b fb) (hm : behindInMarks op b = false := by first | exact nomark _ | rfl) : ST X (.Compare a [op] [b] pos) (cB (fOp2 φ fa fb)) :=
  pt_weak (pt_cmpR ho ha hb hm) fun σ H Q ⟨B, g, ρ, w, d, ρ', w', R, e, k⟩ => by
    obtain ⟨x, ρ1, w1, e1, e2⟩ := mBind_some e
    obtain ⟨h5, rfl, rfl⟩ := mLift_some e2
    rw [asB_some h5] at e1
    exact op2_read hr ⟨B, g, ρ, w, _, _, _, R, e1, fun v g' H' R' l r => ⟨d, r, k g' H' R' l⟩⟩
def cAnd (f k : M Bool) : M Bool := mBind f fun b => if b then k else mRet false
def cOr (f k : M Bool) : M Bool := mBind f fun b => if b then mRet true else k
def cNot (f : M Bool) : M Bool := mBind f fun b => mRet (!b)
def fIf (c : M Bool) (f k : M Dt) : M Dt := mBind c fun b => if b then f else k
def rIf (c : M Bool) (f k : M RV) : M RV := mBind c fun b => if b then f else k
variable {c : M Bool} {f k : M Dt} {ca cb : M Bool} {rest : List Expr}
theorem sw_and1 (ha : ST X a ca) : SW X (.BoolOp .And [a] pos) ca := pw_and1 ha
theorem sw_or1 (ha : ST X a ca) : SW X (.BoolOp .Or [a] pos) ca := pw_or1 ha
theorem tT_bind {K : PySem.W.Frag} {c : M Bool} {k : Bool → M Bool} {σ : St} {H : Hp} {Q : Bool → Hp → Prop} (h : tT K (mBind c k) σ H Q) : tT K c σ H fun b H1 => tT K (k b) σ H1 Q := by
  obtain ⟨B, g, ρ, w, d, ρ', w', R, e, q⟩ := h
  obtain ⟨x, ρ1, w1, e1, e2⟩ := mBind_some e
  exact ⟨B, g, ρ, w, x, ρ1, w1, R, e1, fun g1 H1 R1 l1 => ⟨B, g1, ρ1, w1, d, ρ', w', R1, e2, fun g' H' R' l => q g' H' R' (l1.trans l)⟩⟩
theorem tT_ret {K : PySem.W.Frag} {b : Bool} {σ : St} {H : Hp} {Q : Bool → Hp → Prop} (h : tT K (mRet b) σ H Q) : Q b H := by
  obtain ⟨B, g, ρ, w, d, ρ', w', R, e, q⟩ := h
  cases e
  exact q g H R (.refl g)
theorem sw_and (ha : ST X a ca) (hb : SW X (.BoolOp .And (b :: rest) pos) cb) : SW X (.BoolOp .And (a :: b :: rest) pos) (cAnd ca cb) :=
  pw_weak (pw_and ha hb) fun σ H Q h => by
    obtain ⟨B, g, ρ, w, x, ρ1, w1, R, e, q⟩ := tT_bind h
    refine ⟨B, g, ρ, w, x, ρ1, w1, R, e, fun g1 H1 R1 l1 => ?_⟩
    have q1 := q g1 H1 R1 l1
    cases x with
    | true => exact q1
    | false => exact tT_ret q1
theorem sw_or (ha : ST X a ca) (hb : SW X (.BoolOp .Or (b :: rest) pos) cb) : SW X (.BoolOp .Or (a :: b :: rest) pos) (cOr ca cb) :=
  pw_weak (pw_or ha hb) fun σ H Q h => by
    obtain ⟨B, g, ρ, w, x, ρ1, w1, R, e, q⟩ := tT_bind h
    refine ⟨B, g, ρ, w, x, ρ1, w1, R, e, fun g1 H1 R1 l1 => ?_⟩
    have q1 := q g1 H1 R1 l1
    cases x with
    | true => exact tT_ret q1
    | false => exact q1
theorem st_not (ha : ST X a ca) : ST X (.UnaryOp .Not a pos) (cNot ca) :=
  pt_weak (pt_not ha) fun σ H Q h => by
    obtain ⟨B, g, ρ, w, x, ρ1, w1, R, e, q⟩ := tT_bind h
    exact ⟨B, g, ρ, w, x, ρ1, w1, R, e, fun g1 H1 R1 l1 => tT_ret (q g1 H1 R1 l1)⟩
theorem st_w (h : SW X a ca) : ST X a ca := h.pt
theorem tE_bindT {K : PySem.W.Frag} {c : M Bool} {k : Bool → M Dt} {σ : St} {H : Hp} {Q : VK} (h : tE K (mBind c k) σ H Q) : tT K c σ H fun b H1 => tE K (k b) σ H1 Q := by
  obtain ⟨B, g, ρ, w, d, ρ', w', R, e, q⟩ := h
  obtain ⟨x, ρ1, w1, e1, e2⟩ := mBind_some e
  exact ⟨B, g, ρ, w, x, ρ1, w1, R, e1, fun g1 H1 R1 l1 => ⟨B, g1, ρ1, w1, d, ρ', w', R1, e2, fun v g' H' R' l r => q v g' H' R' (l1.trans l) r⟩⟩
theorem tR_bindT {K : PySem.W.Frag} {c : M Bool} {k : Bool → M RV} {σ : St} {H : Hp} {Q : VK} (h : tR K (mBind c k) σ H Q) : tT K c σ H fun b H1 => tR K (k b) σ H1 Q := by
  obtain ⟨B, g, ρ, w, d, ρ', w', R, e, q⟩ := h
  obtain ⟨x, ρ1, w1, e1, e2⟩ := mBind_some e
  exact ⟨B, g, ρ, w, x, ρ1, w1, R, e1, fun g1 H1 R1 l1 => ⟨B, g1, ρ1, w1, d, ρ', w', R1, e2, fun v g' H' R' l r => q v g' H' R' (l1.trans l) r⟩⟩
theorem se_ifExp {t : Expr} (hc : ST X t c) (ha : SE X a f) (hb : SE X b k) : SE X (.IfExp t a b pos) (fIf c f k) :=
  pe_weak (pe_ifExp hc ha hb) fun σ H Q h => by
    obtain ⟨B, g, ρ, w, x, ρ1, w1, R, e, q⟩ := tE_bindT h
    refine ⟨B, g, ρ, w, x, ρ1, w1, R, e, fun g1 H1 R1 l1 => ?_⟩
    have q1 := q g1 H1 R1 l1
    cases x <;> exact q1
theorem sr_ifExp {t : Expr} {f k : M RV} (hc : ST X t c) (ha : SR X a f) (hb : SR X b k) : SR X (.IfExp t a b pos) (rIf c f k) :=
  pe_weak (pe_ifExp hc ha hb) fun σ H Q h => by
    obtain ⟨B, g, ρ, w, x, ρ1, w1, R, e, q⟩ := tR_bindT h
    refine ⟨B, g, ρ, w, x, ρ1, w1, R, e, fun g1 H1 R1 l1 => ?_⟩
    have q1 := q g1 H1 R1 l1
    cases x <;> exact q1
/-! a test as a value -/
theorem se_test {op : BoolOp} {es : List Expr} (h : True) : True := trivial
end

/-! ### argument lists -/
section
variable {X : Cx} {pos : Pos}
def RvL (K : PySem.W.Frag) (g : Gh) (σ : St) : List RV → List V → Prop
  | [], [] => True
  | r :: rs, v :: vs => RvOk K g σ r v ∧ RvL K g σ rs vs
  | _, _ => False
theorem RvL.mono {K : PySem.W.Frag} {g g' : Gh} {σ : St} (l : Gle g g') : ∀ {rs : List RV} {vs : List V}, RvL K g σ rs vs → RvL K g' σ rs vs
  | [], [], _ => trivial
  | _ :: _, _ :: _, ⟨a, b⟩ => ⟨a.mono l, RvL.mono l b⟩
  | [], _ :: _, q => q.elim
  | _ :: _, [], q => q.elim
def tAR (K : PySem.W.Frag) (f : M (List RV)) : TA := fun σ H Q => ∃ B g ρ w d ρ' w', Rel K B g H σ ρ w ∧ f ρ w = some (d, ρ', w') ∧
  ∀ vs g' H', Rel K B g' H' σ ρ' w' → Gle g g' → RvL K g' σ d vs → Q vs H'
abbrev SAR (X : Cx) (es : List Expr) (f : M (List RV)) : Prop := PA X es (tAR X.K f)
def tAE (K : PySem.W.Frag) (f : M (List Dt)) : TA := fun σ H Q => ∃ B g ρ w d ρ' w', Rel K B g H σ ρ w ∧ f ρ w = some (d, ρ', w') ∧
  ∀ vs g' H', Rel K B g' H' σ ρ' w' → Gle g g' → RpL K g' d vs → Q vs H'
abbrev SA (X : Cx) (es : List Expr) (f : M (List Dt)) : Prop := PA X es (tAE X.K f)
def aNil {α : Type} : M (List α) := mRet []
def aCons {α : Type} (f : M α) (k : M (List α)) : M (List α) := mBind f fun x => mBind k fun xs => mRet (x :: xs)
variable {e : Expr} {es : List Expr}
theorem sar_nil : SAR X [] aNil := pa_weak pa_nil fun σ H Q ⟨B, g, ρ, w, d, ρ', w', R, e, k⟩ => by
  cases e; exact k [] g H R (.refl g) trivial
theorem sa_nil : SA X [] aNil := pa_weak pa_nil fun σ H Q ⟨B, g, ρ, w, d, ρ', w', R, e, k⟩ => by
  cases e; exact k [] g H R (.refl g) trivial
theorem sar_cons {f : M RV} {k : M (List RV)} (h : SR X e f) (hk : SAR X es k) (hs : starEach (e :: es) X.env = (false, eval e X.env) :: starEach es X.env := by rfl) : SAR X (e :: es) (aCons f k) :=
  pa_weak (pa_cons h hk hs) fun σ H Q ⟨B, g, ρ, w, d, ρ', w', R, e, q⟩ => by
    obtain ⟨x, ρ1, w1, e1, e⟩ := mBind_some e
    obtain ⟨xs, ρ2, w2, e2, e⟩ := mBind_some e
    cases e
    refine ⟨B, g, ρ, w, x, ρ1, w1, R, e1, fun v g1 H1 R1 l1 r1 => ⟨B, g1, ρ1, w1, xs, _, _, R1, e2, fun vs g2 H2 R2 l2 r2 => ?_⟩⟩
    exact q (v :: vs) g2 H2 R2 (l1.trans l2) ⟨r1.mono l2, r2⟩
theorem sa_cons {f : M Dt} {k : M (List Dt)} (h : SE X e f) (hk : SA X es k) (hs : starEach (e :: es) X.env = (false, eval e X.env) :: starEach es X.env := by rfl) : SA X (e :: es) (aCons f k) :=
  pa_weak (pa_cons h hk hs) fun σ H Q ⟨B, g, ρ, w, d, ρ', w', R, e, q⟩ => by
    obtain ⟨x, ρ1, w1, e1, e⟩ := mBind_some e
    obtain ⟨xs, ρ2, w2, e2, e⟩ := mBind_some e
    cases e
    refine ⟨B, g, ρ, w, x, ρ1, w1, R, e1, fun v g1 H1 R1 l1 r1 => ⟨B, g1, ρ1, w1, xs, _, _, R1, e2, fun vs g2 H2 R2 l2 r2 => ?_⟩⟩
    exact q (v :: vs) g2 H2 R2 (l1.trans l2) ⟨r1.mono l2, r2⟩

/-! ### displays -/
def inLine (n : Nat) : Bool := decide (n ≤ sizeLine)
def fTup (f : M (List Dt)) : M Dt := mBind f fun ds => if inLine ds.length then mRet (.tup ds) else mFail
def fLst (f : M (List Dt)) : M Dt := mBind f fun ds => if inLine ds.length then mRet (.lst ds) else mFail
theorem inLine_of {n : Nat} (h : inLine n = true) : n ≤ sizeLine := of_decide_eq_true h
theorem ite_fail {α : Type} {b : Bool} {m : M α} {ρ : En} {w : Wd} {r : α × En × Wd} (h : (if b = true then m else mFail) ρ w = some r) : b = true ∧ m ρ w = some r := by
  cases b with
  | true => exact ⟨rfl, h⟩
  | false => cases h
theorem se_tup {f : M (List Dt)} {x1} (h : SA X es f) : SE X (.Tuple es x1 pos) (fTup f) :=
  pe_weak (pe_tup h) fun σ H Q ⟨B, g, ρ, w, d, ρ', w', R, e, k⟩ => by
    obtain ⟨ds, ρ1, w1, e1, e⟩ := mBind_some e
    obtain ⟨hz, e⟩ := ite_fail e
    cases e
    refine ⟨B, g, ρ, w, ds, _, _, R, e1, fun vs g1 H1 R1 l1 r1 => ⟨by rw [← r1.length]; exact inLine_of hz, fun p hp => ?_⟩⟩
    have G : Grow g1 H1 (g1.put p (.tup vs)) (upd H1 p (.tup vs)) := Grow.one R1.sub hp
    exact k _ _ _ (R1.grow G) (l1.trans G.le) ⟨p, vs, rfl, .inl (.inl put_at), r1.mono G.le⟩
theorem se_lst {f : M (List Dt)} (h : SA X es f) : SE X (.List es pos) (fLst f) :=
  pe_weak (pe_lst h) fun σ H Q ⟨B, g, ρ, w, d, ρ', w', R, e, k⟩ => by
    obtain ⟨ds, ρ1, w1, e1, e⟩ := mBind_some e
    obtain ⟨hz, e⟩ := ite_fail e
    cases e
    refine ⟨B, g, ρ, w, ds, _, _, R, e1, fun vs g1 H1 R1 l1 r1 => ⟨by rw [← r1.length]; exact inLine_of hz, fun p hp => ?_⟩⟩
    have G : Grow g1 H1 (g1.put p (.lst vs)) (upd H1 p (.lst vs)) := Grow.one R1.sub hp
    exact k _ _ _ (R1.grow G) (l1.trans G.le) ⟨p, vs, rfl, put_at, r1.mono G.le⟩
end
end Lw

end
section
set_option Elab.async false
set_option linter.all false
set_option maxRecDepth 100000
set_option maxHeartbeats 2000000
namespace Lw
open PySem PySem.Spec L2

/-! ### dicts by value -/
def getK {κ : Type} [DecidableEq κ] : List κ → List Dt → κ → Option Dt
  | k :: ks, d :: ds, q => if k = q then some d else getK ks ds q
  | _, _, _ => none
def setK {κ : Type} [DecidableEq κ] : List κ → List Dt → κ → Dt → List Dt
  | k :: ks, d :: ds, q, x => (if k = q then x else d) :: setK ks ds q x
  | _, _, _, _ => []
def putKs {κ : Type} [DecidableEq κ] (ks : List κ) (q : κ) : List κ := if (ks.any fun k => decide (k = q)) = true then ks else ks ++ [q]
def putKd {κ : Type} [DecidableEq κ] (ks : List κ) (ds : List Dt) (q : κ) (x : Dt) : List Dt := if (ks.any fun k => decide (k = q)) = true then setK ks ds q x else ds ++ [x]
def asK : Dt → Option Key
  | .int i => some (.inl i)
  | .str s => some (.inr s)
  | _ => none
def kD : Key → Dt
  | .inl i => .int i
  | .inr s => .str s
section
variable {κ : Type} [DecidableEq κ] {K : PySem.W.Frag} {g : Gh}
theorem asK_some {d : Dt} {k : Key} (h : asK d = some k) : d = kD k := by
  cases d <;> first | (cases h; rfl) | cases h
theorem rp_kD {k : Key} : Rp K g (kD k) (kV k) := by cases k <;> rfl
theorem rp_kD_is {k : Key} {v : V} (h : Rp K g (kD k) v) : v = kV k := by cases k <;> exact h
theorem getK_rp : ∀ {ds : List Dt} {kv : List (κ × V)} {q : κ} {d : Dt}, RpL K g ds (kv.map (·.2)) → getK (kv.map (·.1)) ds q = some d → ∃ v, valV kv q = some v ∧ Rp K g d v
  | [], [], q, d, _, e => by cases e
  | x :: ds, p :: kv, q, d, ⟨r1, r2⟩, e => by
    have e' : (if p.1 = q then some x else getK (kv.map (·.1)) ds q) = some d := e
    split at e'
    · rename_i h
      cases e'
      exact ⟨p.2, valV_pos h, r1⟩
    · rename_i h
      obtain ⟨v, h1, h2⟩ := getK_rp (kv := kv) r2 e'
      exact ⟨v, by rw [valV_neg h]; exact h1, h2⟩
  | [], _ :: _, _, _, r, _ => r.elim
  | _ :: _, [], _, _, r, _ => r.elim
theorem getK_none : ∀ {ds : List Dt} {kv : List (κ × V)} {q : κ}, RpL K g ds (kv.map (·.2)) → getK (kv.map (·.1)) ds q = none → valV kv q = none
  | [], [], q, _, e => rfl
  | x :: ds, p :: kv, q, ⟨r1, r2⟩, e => by
    have e' : (if p.1 = q then some x else getK (kv.map (·.1)) ds q) = none := e
    split at e'
    · cases e'
    · rename_i h
      rw [valV_neg h]
      exact getK_none (kv := kv) r2 e'
  | [], _ :: _, _, r, _ => r.elim
  | _ :: _, [], _, r, _ => r.elim
theorem setK_rp {q : κ} {x : Dt} {v : V} (rx : Rp K g x v) : ∀ {ds : List Dt} {kv : List (κ × V)}, RpL K g ds (kv.map (·.2)) → RpL K g (setK (kv.map (·.1)) ds q x) ((kv.map fun p => if p.1 = q then (p.1, v) else p).map (·.2))
  | [], [], _ => trivial
  | y :: ds, p :: kv, ⟨r1, r2⟩ => by
    refine ⟨?_, setK_rp rx (kv := kv) r2⟩
    show Rp K g (if p.1 = q then x else y) (if p.1 = q then (p.1, v) else p).2
    split
    · exact rx
    · exact r1
  | [], _ :: _, r => r.elim
  | _ :: _, [], r => r.elim
theorem any_fst {kv : List (κ × V)} {q : κ} : ((kv.map (·.1)).any fun k => decide (k = q)) = kv.any fun p => decide (p.1 = q) := by
  rw [List.any_map]; rfl
theorem putK_rp {q : κ} {x : Dt} {v : V} {ds : List Dt} {kv : List (κ × V)} (rx : Rp K g x v) (r : RpL K g ds (kv.map (·.2))) :
    (putK kv q v).map (·.1) = putKs (kv.map (·.1)) q ∧ RpL K g (putKd (kv.map (·.1)) ds q x) ((putK kv q v).map (·.2)) := by
  unfold putK putKs putKd
  rw [any_fst]
  split
  · refine ⟨?_, setK_rp rx r⟩
    rw [List.map_map]
    refine List.map_congr_left fun p _ => ?_
    show (if p.1 = q then (p.1, v) else p).1 = p.1
    split <;> rfl
  · refine ⟨by rw [List.map_append]; rfl, ?_⟩
    rw [List.map_append]
    exact r.append ⟨rx, trivial⟩
end

/-! ### the operators on data -/
def mulOk (i j : Int) : Bool := decide (i.natAbs < 2 ^ 64) || decide (j.natAbs < 2 ^ 64) || decide (i.natAbs.log2 + j.natAbs.log2 < 1000000)
def divOk (j : Int) : Bool := decide (j ≠ 0) && decide (j.natAbs.log2 < 9000)
def oAdd : Dt → Dt → Option Dt
  | .int i, .int j => some (.int (i + j))
  | .str a, .str b => if inLine (a.length + b.length) then some (.str (a ++ b)) else none
  | .lst a, .lst b => if inLine (a.length + b.length) then some (.lst (a ++ b)) else none
  | .tup a, .tup b => if inLine (a.length + b.length) then some (.tup (a ++ b)) else none
  | _, _ => none
def oSub : Dt → Dt → Option Dt
  | .int i, .int j => some (.int (i - j))
  | _, _ => none
def oMul : Dt → Dt → Option Dt
  | .int i, .int j => if mulOk i j then some (.int (i * j)) else none
  | _, _ => none
def oDiv : Dt → Dt → Option Dt
  | .int i, .int j => if divOk j then some (.int (i.fdiv j)) else none
  | _, _ => none
def oMod : Dt → Dt → Option Dt
  | .int i, .int j => if decide (j ≠ 0) then some (.int (i.fmod j)) else none
  | _, _ => none
def oPow : Dt → Dt → Option Dt
  | .int i, .int j => if decide (0 ≤ j) && decide (j ≤ 1000000) && decide (i.natAbs < 2 ^ 64) then some (.int (i ^ j.toNat)) else none
  | _, _ => none
def oLt : Dt → Dt → Option Dt
  | .int i, .int j => some (.bl (decide (i < j)))
  | _, _ => none
def oLe : Dt → Dt → Option Dt
  | .int i, .int j => some (.bl (decide (i ≤ j)))
  | _, _ => none
def oGt : Dt → Dt → Option Dt
  | .int i, .int j => some (.bl (decide (j < i)))
  | _, _ => none
def oGe : Dt → Dt → Option Dt
  | .int i, .int j => some (.bl (decide (j ≤ i)))
  | _, _ => none
mutual
def Dt.py : Dt → Option PyData
  | .non => some .none
  | .bl b => some (.bool b)
  | .int i => some (.int i)
  | .str s => some (.str s)
  | .tup ds => match Dt.pyL ds with
    | some xs => some (.tuple xs)
    | none => none
  | .lst ds => match Dt.pyL ds with
    | some xs => some (.list xs)
    | none => none
  | .dct _ _ => none
  | .dcx _ _ => none
  | .src => none
  | .cel => none
  | .rol _ => none
def Dt.pyL : List Dt → Option (List PyData)
  | [] => some []
  | d :: ds => match Dt.py d with
    | some x => match Dt.pyL ds with
      | some xs => some (x :: xs)
      | none => none
    | none => none
end
def oEq (a b : Dt) : Option Dt := match a.py, b.py with
  | some x, some y => if SeqAt.shaped x && SeqAt.shaped y then some (.bl (PyData.eqv x y)) else none
  | _, _ => none
def oNe (a b : Dt) : Option Dt := match a.py, b.py with
  | some x, some y => if SeqAt.shaped x && SeqAt.shaped y then some (.bl (!PyData.eqv x y)) else none
  | _, _ => none
def isNon : Dt → Bool
  | .non => true
  | _ => false
def oIs (a b : Dt) : Option Dt := if isNon b then some (.bl (isNon a)) else none
def oIsNot (a b : Dt) : Option Dt := if isNon b then some (.bl (!isNon a)) else none
def asV : Dt → Option V
  | .non => some .non
  | .bl b => some (.bl b)
  | .int i => some (.int i)
  | .str s => some (.str s)
  | _ => none
def asVs : List Dt → Option (List V)
  | [] => some []
  | d :: ds => match asV d, asVs ds with
    | some x, some xs => some (x :: xs)
    | _, _ => none
def oIn (a b : Dt) : Option Dt := match a, b with
  | .str x, .str y => some (.bl (!(Builtin.Str.occurrences y x 0 y.length 1).isEmpty))
  | a, .lst ds => match a.py, (Dt.lst ds).py with
    | some x, some (.list ys) => if SeqAt.shaped x && SeqAt.shaped (.list ys) then some (.bl (ys.any fun z => PyData.eqv z x)) else none
    | _, _ => none
  | a, .dct ks vs => (asK a).map fun k => .bl (getK ks vs k).isSome
  | a, .tup ds => match asV a, asVs ds with
    | some x, some xs => some (.bl (inV x xs))
    | _, _ => none
  | _, _ => none
def oNotIn (a b : Dt) : Option Dt := match a, b with
  | .str x, .str y => some (.bl (!(!(Builtin.Str.occurrences y x 0 y.length 1).isEmpty)))
  | a, .lst ds => match a.py, (Dt.lst ds).py with
    | some x, some (.list ys) => if SeqAt.shaped x && SeqAt.shaped (.list ys) then some (.bl (!ys.any fun z => PyData.eqv z x)) else none
    | _, _ => none
  | a, .dct ks vs => (asK a).map fun k => .bl (!(getK ks vs k).isSome)
  | a, .tup ds => match asV a, asVs ds with
    | some x, some xs => some (.bl (!inV x xs))
    | _, _ => none
  | _, _ => none

section
variable {K : PySem.W.Frag} {g : Gh} {H : Hp} {Q : VK}
theorem Gives.same {d : Dt} {v : V} (h : Gives K g H d Q) (r : Rp K g d v) : Q v H := h v g H (.refl g H) r
theorem Gives.int {i : Int} (h : Gives K g H (.int i) Q) : Q (.int i) H := h.same rfl
theorem Gives.bl {i : Bool} (h : Gives K g H (.bl i) Q) : Q (.bl i) H := h.same rfl
theorem Gives.str {i : Str} (h : Gives K g H (.str i) Q) : Q (.str i) H := h.same rfl
theorem Gives.lst {ds : List Dt} {xs : List V} {p : Addr} (h : Gives K g H (.lst ds) Q) (hs : ∀ a o, g.F a = some o → H a = some o) (r : RpL K g ds xs) (hp : H p = none) : Q (.ref p) (upd H p (.lst xs)) := by
  have G : Grow g H (g.put p (.lst xs)) (upd H p (.lst xs)) := Grow.one hs hp
  exact h _ _ _ G ⟨p, xs, rfl, put_at, r.mono G.le⟩
theorem Gives.tup {ds : List Dt} {xs : List V} {p : Addr} (h : Gives K g H (.tup ds) Q) (hs : ∀ a o, g.F a = some o → H a = some o) (r : RpL K g ds xs) (hp : H p = none) : Q (.ref p) (upd H p (.tup xs)) := by
  have G : Grow g H (g.put p (.tup xs)) (upd H p (.tup xs)) := Grow.one hs hp
  exact h _ _ _ G ⟨p, xs, rfl, .inl (.inl put_at), r.mono G.le⟩
mutual
theorem py_dp (hs : ∀ a o, g.F a = some o → H a = some o) : ∀ {d : Dt} {v : V} {x : PyData}, Rp K g d v → d.py = some x → Dp K H v x
  | .non, _, _, r, e => by cases e; cases r; exact .non
  | .bl b, _, _, r, e => by cases e; cases r; exact .bl b
  | .int i, _, _, r, e => by cases e; cases r; exact .int i
  | .str s, _, _, r, e => by cases e; cases r; exact .str s
  | .tup ds, _, _, ⟨a, xs, ev, q, r⟩, e => by
    unfold Dt.py at e
    split at e
    · rename_i ys hy
      cases e; subst ev
      exact .tup (sqT_mono hs q) (py_dpL hs (ds := ds) r hy)
    · cases e
  | .lst ds, _, _, ⟨a, xs, ev, q, r⟩, e => by
    unfold Dt.py at e
    split at e
    · rename_i ys hy
      cases e; subst ev
      exact .lst (SqL.of (hs _ _ q)) (py_dpL hs (ds := ds) r hy)
    · cases e
  | .dct _ _, _, _, _, e => by unfold Dt.py at e; cases e
  | .dcx _ _, _, _, _, e => by unfold Dt.py at e; cases e
  | .src, _, _, _, e => by unfold Dt.py at e; cases e
  | .cel, _, _, _, e => by unfold Dt.py at e; cases e
  | .rol _, _, _, _, e => by unfold Dt.py at e; cases e
theorem py_dpL (hs : ∀ a o, g.F a = some o → H a = some o) : ∀ {ds : List Dt} {vs : List V} {xs : List PyData}, RpL K g ds vs → Dt.pyL ds = some xs → DpAll K H vs xs
  | [], [], _, _, e => by unfold Dt.pyL at e; cases e; exact .nil
  | d :: ds, v :: vs, _, ⟨r1, r2⟩, e => by
    unfold Dt.pyL at e
    split at e
    · rename_i x hx
      split at e
      · rename_i ys hy
        cases e
        exact .cons (py_dp hs (d := d) r1 hx) (py_dpL hs (ds := ds) r2 hy)
      · cases e
    · cases e
  | [], _ :: _, _, q, _ => q.elim
  | _ :: _, [], _, q, _ => q.elim
end
theorem vw_dp (hs : ∀ a o, g.F a = some o → H a = some o) {d : Dt} {v : V} {x : PyData} (r : Vw K g H d v) (e : d.py = some x) : Dp K H v x := by
  cases d with
  | lst ds =>
    obtain ⟨a, xs, ev, q, r⟩ := r
    unfold Dt.py at e
    split at e
    · rename_i ys hy
      cases e; subst ev
      exact .lst (SqL.of q) (py_dpL hs r hy)
    · cases e
  | dct ks ds => unfold Dt.py at e; cases e
  | dcx ks ds => unfold Dt.py at e; cases e
  | _ => exact py_dp hs r e
theorem ite_some {α : Type} {b : Bool} {x : Option α} {d : α} (h : (if b = true then x else none) = some d) : b = true ∧ x = some d := by
  cases b with
  | true => exact ⟨rfl, h⟩
  | false => cases h
theorem ab64 {i : Int} (h : i.natAbs < 2 ^ 64) : -(2 ^ 64) < i ∧ i < 2 ^ 64 := by omega

theorem r_sub : Op2 K (rI0 fun i j => .int (i - j)) oSub := fun g H x y dx dy d Q hs vx vy e k => by
  unfold oSub at e
  split at e
  · cases e; cases vx; cases vy
    exact ⟨_, _, rfl, rfl, k.int⟩
  · cases e
theorem r_lt : Op2 K (rI0 fun i j => .bl (decide (i < j))) oLt := fun g H x y dx dy d Q hs vx vy e k => by
  unfold oLt at e
  split at e
  · cases e; cases vx; cases vy
    exact ⟨_, _, rfl, rfl, k.bl⟩
  · cases e
theorem r_le : Op2 K (rI0 fun i j => .bl (decide (i ≤ j))) oLe := fun g H x y dx dy d Q hs vx vy e k => by
  unfold oLe at e
  split at e
  · cases e; cases vx; cases vy
    exact ⟨_, _, rfl, rfl, k.bl⟩
  · cases e
theorem r_gt : Op2 K (rI0 fun i j => .bl (decide (j < i))) oGt := fun g H x y dx dy d Q hs vx vy e k => by
  unfold oGt at e
  split at e
  · cases e; cases vx; cases vy
    exact ⟨_, _, rfl, rfl, k.bl⟩
  · cases e
theorem r_ge : Op2 K (rI0 fun i j => .bl (decide (j ≤ i))) oGe := fun g H x y dx dy d Q hs vx vy e k => by
  unfold oGe at e
  split at e
  · cases e; cases vx; cases vy
    exact ⟨_, _, rfl, rfl, k.bl⟩
  · cases e
theorem r_is : Op2 K (fun x y H Q => y = .non ∧ Q (.bl (decide (x = .non))) H) oIs := fun g H x y dx dy d Q hs vx vy e k => by
  unfold oIs at e
  obtain ⟨h1, e⟩ := ite_some e
  cases e
  cases dy <;> first | cases h1 | skip
  refine ⟨vy, ?_⟩
  have : isNon dx = decide (x = .non) := by
    cases dx with
    | non => cases vx; rfl
    | bl b => cases vx; rfl
    | int b => cases vx; rfl
    | str b => cases vx; rfl
    | tup ds => obtain ⟨a, xs, ev, _⟩ := vx; subst ev; rfl
    | lst ds => obtain ⟨a, xs, ev, _⟩ := vx; subst ev; rfl
    | dct ks ds => obtain ⟨a, xs, ev, _⟩ := vx; subst ev; rfl
    | dcx ks ds => obtain ⟨a, xs, ev, _⟩ := vx; subst ev; rfl
    | src => obtain ⟨a, xs, ev, _⟩ := vx; subst ev; rfl
    | cel => obtain ⟨a, xs, ev, _⟩ := vx; subst ev; rfl
    | rol ns => obtain ⟨a, ev, _⟩ := vx; subst ev; rfl
  rw [← this]; exact k.bl
theorem r_isnot : Op2 K (fun x y H Q => y = .non ∧ Q (.bl (!decide (x = .non))) H) oIsNot := fun g H x y dx dy d Q hs vx vy e k => by
  unfold oIsNot at e
  obtain ⟨h1, e⟩ := ite_some e
  cases e
  exact r_is (K := K) g H x y dx dy (.bl (isNon dx)) (fun v H' => Q (match v with | .bl b => .bl (!b) | v => v) H') hs vx vy (by unfold oIs; rw [if_pos h1]) (fun v g' H' G r => by
    cases r
    exact k _ g' H' G rfl)
def rAddAll (K : PySem.W.Frag) : R2 := fun x y H Q => (rI0 fun i j => .int (i + j)) x y H Q ∨ (∃ i j, x = .str i ∧ y = .str j ∧ i.length + j.length ≤ sizeLine ∧ Q (.str (i ++ j)) H) ∨ rCat x y H Q ∨ rCatA K x y H Q
theorem o_add {X : Cx} : OpR X (binaryOp .Add) (rAddAll X.K) := op_add.or (op_add_str.or (op_cat.or op_catA))
theorem r_add : Op2 K (rAddAll K) oAdd := fun g H x y dx dy d Q hs vx vy e k => by
  unfold oAdd at e
  split at e
  · cases e; cases vx; cases vy
    exact .inl ⟨_, _, rfl, rfl, k.int⟩
  · obtain ⟨h1, e⟩ := ite_some e
    cases e; cases vx; cases vy
    exact .inr (.inl ⟨_, _, rfl, rfl, inLine_of h1, k.str⟩)
  · obtain ⟨h1, e⟩ := ite_some e
    cases e
    obtain ⟨a, xs, ev, hx, rx⟩ := vx
    obtain ⟨b, ys, eu, hy, ry⟩ := vy
    exact .inr (.inr (.inl ⟨a, b, xs, ys, ev, eu, hx, hy, by rw [← rx.length, ← ry.length]; exact inLine_of h1, fun p hp => k.lst hs (rx.append ry) hp⟩))
  · obtain ⟨h1, e⟩ := ite_some e
    cases e
    obtain ⟨a, xs, ev, hx, rx⟩ := vx
    obtain ⟨b, ys, eu, hy, ry⟩ := vy
    refine .inr (.inr (.inr ⟨a, b, xs, ys, ev, eu, sqT_mono hs hx, sqT_mono hs hy, by rw [← rx.length, ← ry.length]; exact inLine_of h1, fun ez => ?_, fun _ ez => ?_, fun _ _ p hp => k.tup hs (rx.append ry) hp⟩))
    · subst ez
      have : (_ : List Dt) = [] := List.eq_nil_of_length_eq_zero (rx.length.trans rfl)
      refine k.same ⟨b, ys, rfl, hy, ?_⟩
      rw [this]; exact ry
    · subst ez
      have : (_ : List Dt) = [] := List.eq_nil_of_length_eq_zero (ry.length.trans rfl)
      refine k.same ⟨a, xs, rfl, hx, ?_⟩
      rw [this, List.append_nil]; exact rx
  · cases e
def CMulA (i j : Int) : Prop := CMul i j ∨ CMulW i j
theorem o_mul {X : Cx} : OpR X (binaryOp .Mult) (rI CMulA fun i j => .int (i * j)) := opI fun _ _ _ _ _ _ _ hc q => PyProof.Rows.mul_int q (hc.elim CMul.ok CMulW.ok)
theorem mulOk_of {i j : Int} (h : mulOk i j = true) : CMulA i j := by
  unfold mulOk at h
  rcases Bool.or_eq_true_iff.mp h with h | h
  · rcases Bool.or_eq_true_iff.mp h with h | h
    · exact .inl (.inl (ab64 (of_decide_eq_true h)))
    · exact .inl (.inr (ab64 (of_decide_eq_true h)))
  · have h' := of_decide_eq_true h
    exact .inr h'
theorem r_mul : Op2 K (rI CMulA fun i j => .int (i * j)) oMul := fun g H x y dx dy d Q hs vx vy e k => by
  unfold oMul at e
  split at e
  · obtain ⟨h1, e⟩ := ite_some e
    cases e; cases vx; cases vy
    exact ⟨_, _, rfl, rfl, mulOk_of h1, k.int⟩
  · cases e
def CDivA (_ j : Int) : Prop := j ≠ 0 ∧ j.natAbs.log2 < 9000
theorem o_div {X : Cx} : OpR X (binaryOp .FloorDiv) (rI CDivA fun i j => .int (i.fdiv j)) := opI fun _ _ _ _ _ _ _ hc q => PyProof.Rows.floordiv_int hc.1 q (.inl (PyProof.noPylong_of_log2 hc.2))
theorem r_div : Op2 K (rI CDivA fun i j => .int (i.fdiv j)) oDiv := fun g H x y dx dy d Q hs vx vy e k => by
  unfold oDiv at e
  split at e
  · obtain ⟨h1, e⟩ := ite_some e
    cases e; cases vx; cases vy
    obtain ⟨h2, h3⟩ := Bool.and_eq_true_iff.mp h1
    exact ⟨_, _, rfl, rfl, ⟨of_decide_eq_true h2, of_decide_eq_true h3⟩, k.int⟩
  · cases e
theorem r_mod : Op2 K (rI (fun _ j => j ≠ 0) fun i j => .int (i.fmod j)) oMod := fun g H x y dx dy d Q hs vx vy e k => by
  unfold oMod at e
  split at e
  · obtain ⟨h1, e⟩ := ite_some e
    cases e; cases vx; cases vy
    exact ⟨_, _, rfl, rfl, of_decide_eq_true h1, k.int⟩
  · cases e
theorem r_pow : Op2 K (rI CPow fun i j => .int (i ^ j.toNat)) oPow := fun g H x y dx dy d Q hs vx vy e k => by
  unfold oPow at e
  split at e
  · obtain ⟨h1, e⟩ := ite_some e
    cases e; cases vx; cases vy
    obtain ⟨h2, h3⟩ := Bool.and_eq_true_iff.mp h1
    obtain ⟨h4, h5⟩ := Bool.and_eq_true_iff.mp h2
    exact ⟨_, _, rfl, rfl, ⟨of_decide_eq_true h4, of_decide_eq_true h5, of_decide_eq_true h3⟩, k.int⟩
  · cases e
theorem r_eq : Op2 K (rEqD K) oEq := fun g H x y dx dy d Q hs vx vy e k => by
  unfold oEq at e
  split at e
  · rename_i a b ha hb
    obtain ⟨h1, e⟩ := ite_some e
    cases e
    obtain ⟨h2, h3⟩ := Bool.and_eq_true_iff.mp h1
    exact ⟨a, b, vw_dp hs vx ha, vw_dp hs vy hb, h2, h3, k.bl⟩
  · cases e
theorem r_ne : Op2 K (rNeD K) oNe := fun g H x y dx dy d Q hs vx vy e k => by
  unfold oNe at e
  split at e
  · rename_i a b ha hb
    obtain ⟨h1, e⟩ := ite_some e
    cases e
    obtain ⟨h2, h3⟩ := Bool.and_eq_true_iff.mp h1
    exact ⟨a, b, vw_dp hs vx ha, vw_dp hs vy hb, h2, h3, k.bl⟩
  · cases e
def rInK : R2 := fun x y H Q => ∃ a o, y = .ref a ∧ DGet H a x o ∧ Q (.bl o.isSome) H
def rNotInK : R2 := fun x y H Q => ∃ a o, y = .ref a ∧ DGet H a x o ∧ Q (.bl (!o.isSome)) H
theorem op_inK {X : Cx} (hu : X.A.units + 1 < cLine) : OpR X (compareOp .In) rInK := by
  intro pins s σ H x y v u Q I rx ry h
  obtain ⟨a, o, rfl, g, q⟩ := h
  cases ry
  exact d_in hu I g rx fun s' I' => ⟨.bl o.isSome, H, I', rfl, q⟩
theorem op_notInK {X : Cx} (hu : X.A.units + 1 < cLine) : OpR X (compareOp .NotIn) rNotInK := by
  intro pins s σ H x y v u Q I rx ry h
  obtain ⟨a, o, rfl, g, q⟩ := h
  cases ry
  exact d_notIn hu I g rx fun s' I' => ⟨.bl (!o.isSome), H, I', rfl, q⟩
def rInAll (K : PySem.W.Frag) : R2 := fun x y H Q => (∃ i j, x = .str i ∧ y = .str j ∧ Q (.bl (!(Builtin.Str.occurrences j i 0 j.length 1).isEmpty)) H) ∨ rInD K x y H Q ∨ rInK x y H Q ∨ rIn K false x y H Q
def rNotInAll (K : PySem.W.Frag) : R2 := fun x y H Q => (∃ i j, x = .str i ∧ y = .str j ∧ Q (.bl (!(!(Builtin.Str.occurrences j i 0 j.length 1).isEmpty))) H) ∨ rNotInD K x y H Q ∨ rNotInK x y H Q ∨ rIn K true x y H Q
theorem o_in {X : Cx} (hu : X.A.units + 65 < cLine) : OpR X (compareOp .In) (rInAll X.K) := op_in_str.or ((op_inD hu).or ((op_inK (by omega)).or op_in_seq))
theorem o_notin {X : Cx} (hu : X.A.units + 65 < cLine) : OpR X (compareOp .NotIn) (rNotInAll X.K) := op_notin_str.or ((op_notInD hu).or ((op_notInK (by omega)).or op_notIn_seq))
theorem vw_key {d : Dt} {v : V} {k : Key} (r : Vw K g H d v) (h : asK d = some k) : v = kV k := by
  rw [asK_some h] at r
  cases k <;> exact r
theorem get_opt {ks : List Key} {vs : List Dt} {kv : List (Key × V)} {k : Key} (hk : kv.map (·.1) = ks) (r : RpL K g vs (kv.map (·.2))) : (getK ks vs k).isSome = (valV kv k).isSome := by
  subst hk
  cases e : getK (kv.map (·.1)) vs k with
  | none => rw [getK_none r e]; rfl
  | some d => obtain ⟨v, h1, _⟩ := getK_rp r e; rw [h1]; rfl
theorem asV_vw {d : Dt} {v x : V} (r : Vw K g H d v) (h : asV d = some x) : v = x ∧ flatV x = true := by
  cases d <;> first | cases h | skip
  all_goals exact ⟨r, rfl⟩
theorem asVs_rp : ∀ {ds : List Dt} {vs xs : List V}, RpL K g ds vs → asVs ds = some xs → vs = xs ∧ xs.all flatV = true
  | [], [], _, _, h => by cases h; exact ⟨rfl, rfl⟩
  | d :: ds, v :: vs, xs, ⟨r1, r2⟩, h => by
    unfold asVs at h
    split at h
    · rename_i x xs' h1 h2
      cases h
      obtain ⟨e1, e2⟩ := asVs_rp r2 h2
      have : v = x ∧ flatV x = true := by
        cases d <;> first | cases h1 | skip
        all_goals exact ⟨r1, rfl⟩
      rw [this.1, e1]
      exact ⟨rfl, by rw [List.all_cons, this.2, e2]; rfl⟩
    · cases h
  | [], _ :: _, _, q, _ => q.elim
  | _ :: _, [], _, q, _ => q.elim
theorem r_in : Op2 K (rInAll K) oIn := fun g H x y dx dy d Q hs vx vy e k => by
  unfold oIn at e
  split at e
  · cases e; cases vx; cases vy
    exact .inl ⟨_, _, rfl, rfl, k.bl⟩
  · split at e
    · rename_i a b ha hb
      obtain ⟨h1, e⟩ := ite_some e
      cases e
      obtain ⟨h2, h3⟩ := Bool.and_eq_true_iff.mp h1
      exact .inr (.inl ⟨_, _, vw_dp hs vx ha, vw_dp hs vy hb, h2, h3, k.bl⟩)
    · cases e
  · rename_i a ks vs _
    obtain ⟨q, hq, e2⟩ := Option.map_eq_some_iff.mp e
    subst e2
    obtain ⟨b, kv, ey, hy, hk, ry⟩ := vy
    rw [vw_key vx hq]
    refine .inr (.inr (.inl ⟨b, valV kv q, ey, .inl ⟨kv, q, hy, rfl, rfl⟩, ?_⟩))
    rw [← get_opt hk ry]
    exact k.bl
  · split at e
    · rename_i x xs h1 h2
      cases e
      obtain ⟨b, ys, ey, hy, ry⟩ := vy
      obtain ⟨e1, e2⟩ := asV_vw vx h1
      obtain ⟨e3, e4⟩ := asVs_rp ry h2
      subst e1 e3
      exact .inr (.inr (.inr ⟨b, ys, ey, .inr (sqT_mono hs hy), e2, e4, k.bl⟩))
    · cases e
  · cases e
theorem r_notin : Op2 K (rNotInAll K) oNotIn := fun g H x y dx dy d Q hs vx vy e k => by
  unfold oNotIn at e
  split at e
  · cases e; cases vx; cases vy
    exact .inl ⟨_, _, rfl, rfl, k.bl⟩
  · split at e
    · rename_i a b ha hb
      obtain ⟨h1, e⟩ := ite_some e
      cases e
      obtain ⟨h2, h3⟩ := Bool.and_eq_true_iff.mp h1
      exact .inr (.inl ⟨_, _, vw_dp hs vx ha, vw_dp hs vy hb, h2, h3, k.bl⟩)
    · cases e
  · rename_i a ks vs _
    obtain ⟨q, hq, e2⟩ := Option.map_eq_some_iff.mp e
    subst e2
    obtain ⟨b, kv, ey, hy, hk, ry⟩ := vy
    rw [vw_key vx hq]
    refine .inr (.inr (.inl ⟨b, valV kv q, ey, .inl ⟨kv, q, hy, rfl, rfl⟩, ?_⟩))
    rw [← get_opt hk ry]
    exact k.bl
  · split at e
    · rename_i x xs h1 h2
      cases e
      obtain ⟨b, ys, ey, hy, ry⟩ := vy
      obtain ⟨e1, e2⟩ := asV_vw vx h1
      obtain ⟨e3, e4⟩ := asVs_rp ry h2
      subst e1 e3
      exact .inr (.inr (.inr ⟨b, ys, ey, .inr (sqT_mono hs hy), e2, e4, k.bl⟩))
    · cases e
  · cases e

/-! ### items, cuts, length -/
def oIx : Dt → Dt → Option Dt
  | .lst ds, .int i => atI ds i
  | .tup ds, .int i => atI ds i
  | .str z, .int i => if inLine z.length then (match atI z.cps.toList i with | some c => some (.str ⟨#[c]⟩) | none => none) else none
  | .dct ks vs, k => (asK k).bind (getK ks vs)
  | _, _ => none
def rIxA (K : PySem.W.Frag) : R2 := fun x y H Q => rIx K x y H Q ∨ ∃ a v, x = .ref a ∧ DGet H a y (some v) ∧ Q v H
theorem ix_dict {X : Cx} (hu : X.A.units + 1 < cLine) : IxR X (fun x y H Q => ∃ a v, x = .ref a ∧ DGet H a y (some v) ∧ Q v H) := by
  intro value slice pins s σ H x y v u Q I rx ry h hs
  obtain ⟨a, z, rfl, g, q⟩ := h
  cases rx
  unfold PyProof.Rows.subscriptTail
  refine wpAny_bind ?_
  rw [getitemInPython_of_ne (dict_typeIs I g).not_modules]
  refine wpAny_bind (wpAny_specialOf (dict_typeIs I g) PySem.F.slot_dict_getitem.lookup ?_)
  have fin : wpAny (model X.prog X.w) X.A (subscripted slice false (.ref a) u) (fun r s₃ => wpAny (model X.prog X.w) X.A (letTemporaryGo value (.ref a) r >>= fun _ => pure r) (EP X pins σ Q) X.xe s₃) X.xe s := by
    rw [hs]
    exact wpAny_operating (d_getItem hu I g ry fun w' s3 I3 rw' => wpAny_bind (wpAny_letTemporaryGo (wpAny_pure ⟨z, H, I3, rw', q⟩)))
  first
    | exact wpAny_pure (wpAny_bind fin)
    | exact wpAny_bind (wpAny_pure (wpAny_bind fin))
    | exact wpAny_bind fin
theorem ix_all {X : Cx} (hu : X.A.units + 1 < cLine) : IxR X (rIxA X.K) := ix_seq.or (ix_dict hu)
theorem atI_rp {ds : List Dt} {xs : List V} {i : Int} {d : Dt} (r : RpL K g ds xs) (e : atI ds i = some d) : ∃ v, atI xs i = some v ∧ Rp K g d v := by
  unfold atI at e ⊢
  rw [← r.length]
  cases h : ixN ds.length i with
  | none => rw [h] at e; cases e
  | some j =>
    rw [h] at e
    obtain ⟨v, hv, q⟩ := r.get (i := j) e
    exact ⟨v, hv, q⟩
theorem r_ix : Op2 K (rIxA K) oIx := fun g H x y dx dy d Q hs vx vy e k => by
  unfold oIx at e
  split at e
  · cases vy
    obtain ⟨a, xs, ev, hx, rx⟩ := vx
    obtain ⟨v, hv, q⟩ := atI_rp rx e
    exact .inl (.inl ⟨a, xs, _, v, ev, rfl, SqL.of hx, hv, k.same q⟩)
  · cases vy
    obtain ⟨a, xs, ev, hx, rx⟩ := vx
    obtain ⟨v, hv, q⟩ := atI_rp rx e
    exact .inl (.inr (.inl ⟨a, xs, _, v, ev, rfl, sqT_mono hs hx, hv, k.same q⟩))
  · obtain ⟨h1, e⟩ := ite_some e
    cases vx; cases vy
    split at e
    · rename_i c hc
      cases e
      exact .inl (.inr (.inr ⟨_, _, c, rfl, rfl, inLine_of h1, hc, k.str⟩))
    · cases e
  · obtain ⟨q, hq, e⟩ := Option.bind_eq_some_iff.mp e
    obtain ⟨a, kv, ev, hx, hk, rx⟩ := vx
    subst hk
    obtain ⟨v, h1, h2⟩ := getK_rp rx e
    rw [vw_key vy hq]
    exact .inr ⟨a, v, ev, .inl ⟨kv, q, hx, rfl, h1.symm⟩, k.same h2⟩
  · cases e
/-! calls of what is built in -/
def RvV (K : PySem.W.Frag) (g : Gh) (H : Hp) : List Dt → List V → Prop
  | [], [] => True
  | d :: ds, v :: vs => Vw K g H d v ∧ RvV K g H ds vs
  | _, _ => False
def OpN (K : PySem.W.Frag) (r : List V → Hp → VK → Prop) (φ : List Dt → Option Dt) : Prop :=
  ∀ (g : Gh) (H : Hp) (xs : List V) (ds : List Dt) (d : Dt) (Q : VK), (∀ a o, g.F a = some o → H a = some o) → RvV K g H ds xs → φ ds = some d → Gives K g H d Q → r xs H Q
def cLen : List Dt → Option Dt
  | [.lst ds] => some (.int ds.length)
  | [.tup ds] => some (.int ds.length)
  | [.str s] => if inLine s.length then some (.int s.length) else none
  | [.dct ks _] => some (.int ks.length)
  | _ => none
theorem call_lenK {X : Cx} : CallR X (.builtin "len") (fun xs H Q => ∃ a kvs, xs = [V.ref a] ∧ Rd H a (.dK kvs) ∧ Q (.int kvs.length) H) := by
  intro pins s σ H xs us Q I r h
  obtain ⟨a, kvs, rfl, ha, q⟩ := h
  obtain ⟨u, rfl, ru⟩ := vals1 r
  cases ru
  exact d_len I ha fun t s' I' => ⟨.int kvs.length, H, I', ⟨t, rfl⟩, q⟩
theorem call_lenA {X : Cx} : CallR X (.builtin "len") (fun xs H Q => (∃ x n, xs = [x] ∧ LenV X.K x H n ∧ Q (.int n) H) ∨ ∃ a kvs, xs = [V.ref a] ∧ Rd H a (.dK kvs) ∧ Q (.int kvs.length) H) := call_len.or call_lenK
theorem RvV.one {d : Dt} {xs : List V} (h : RvV K g H [d] xs) : ∃ v, xs = [v] ∧ Vw K g H d v := by
  cases xs with
  | nil => exact h.elim
  | cons v vs => cases vs with
    | nil => exact ⟨v, rfl, h.1⟩
    | cons _ _ => exact h.2.elim
theorem RvV.two {d e : Dt} {xs : List V} (h : RvV K g H [d, e] xs) : ∃ v u, xs = [v, u] ∧ Vw K g H d v ∧ Vw K g H e u := by
  cases xs with
  | nil => exact h.elim
  | cons v vs => cases vs with
    | nil => exact h.2.elim
    | cons u us => cases us with
      | nil => exact ⟨v, u, rfl, h.1, h.2.1⟩
      | cons _ _ => exact h.2.2.elim
theorem n_len : OpN K (fun xs H Q => (∃ x n, xs = [x] ∧ LenV K x H n ∧ Q (.int n) H) ∨ ∃ a kvs, xs = [V.ref a] ∧ Rd H a (.dK kvs) ∧ Q (.int kvs.length) H) cLen := fun g H xs ds d Q hs r e k => by
  unfold cLen at e
  split at e
  · cases e
    obtain ⟨v, rfl, a, ys, rfl, hx, rx⟩ := r.one
    exact .inl ⟨_, _, rfl, .inl ⟨ys, SqL.of hx, rx.length⟩, k.int⟩
  · cases e
    obtain ⟨v, rfl, a, ys, rfl, hx, rx⟩ := r.one
    exact .inl ⟨_, _, rfl, .inr ⟨ys, sqT_mono hs hx, rx.length⟩, k.int⟩
  · obtain ⟨h1, e⟩ := ite_some e
    cases e
    obtain ⟨v, rfl, ev⟩ := r.one
    cases ev
    exact .inl ⟨_, _, rfl, ⟨inLine_of h1, rfl⟩, k.int⟩
  · cases e
    obtain ⟨v, rfl, a, kv, rfl, hx, hk, rx⟩ := r.one
    refine .inr ⟨a, kv, rfl, hx, ?_⟩
    have hl : kv.length = (kv.map (·.1)).length := (List.length_map _).symm
    rw [hl, hk]
    exact k.int
  · cases e
def cAbs : List Dt → Option Dt
  | [.int i] => some (.int (if i < 0 then -i else i))
  | _ => none
theorem n_abs : OpN K (fun xs H Q => ∃ i, xs = [.int i] ∧ Q (.int (if i < 0 then -i else i)) H) cAbs := fun g H xs ds d Q hs r e k => by
  unfold cAbs at e
  split at e
  · cases e
    obtain ⟨v, rfl, ev⟩ := r.one
    cases ev
    exact ⟨_, rfl, k.int⟩
  · cases e
def cMax2 : List Dt → Option Dt
  | [.int i, .int j] => some (.int (if j > i then j else i))
  | _ => none
theorem n_max2 : OpN K (fun xs H Q => ∃ i j, xs = [.int i, .int j] ∧ Q (.int (if j > i then j else i)) H) cMax2 := fun g H xs ds d Q hs r e k => by
  unfold cMax2 at e
  split at e
  · cases e
    obtain ⟨v, u, rfl, ev, eu⟩ := r.two
    cases ev; cases eu
    exact ⟨_, _, rfl, k.int⟩
  · cases e
def cMin2 : List Dt → Option Dt
  | [.int i, .int j] => some (.int (if j < i then j else i))
  | _ => none
theorem n_min2 : OpN K (fun xs H Q => ∃ i j, xs = [.int i, .int j] ∧ Q (.int (if j < i then j else i)) H) cMin2 := fun g H xs ds d Q hs r e k => by
  unfold cMin2 at e
  split at e
  · cases e
    obtain ⟨v, u, rfl, ev, eu⟩ := r.two
    cases ev; cases eu
    exact ⟨_, _, rfl, k.int⟩
  · cases e
def cInt : List Dt → Option Dt
  | [.int i] => some (.int i)
  | [.bl b] => some (.int (if b then 1 else 0))
  | _ => none
theorem n_int : OpN K (fun xs H Q => (∃ i, xs = [.int i] ∧ Q (.int i) H) ∨ ∃ k, xs = [.bl k] ∧ Q (.int (if k then 1 else 0)) H) cInt := fun g H xs ds d Q hs r e k => by
  unfold cInt at e
  split at e
  · cases e
    obtain ⟨v, rfl, ev⟩ := r.one
    cases ev
    exact .inl ⟨_, rfl, k.int⟩
  · cases e
    obtain ⟨v, rfl, ev⟩ := r.one
    cases ev
    exact .inr ⟨_, rfl, k.int⟩
  · cases e
/-- the ints of a list -/
def intsOf : List Dt → Option (List Int)
  | [] => some []
  | .int i :: ds => match intsOf ds with
    | some is => some (i :: is)
    | none => none
  | _ => none
theorem intsOf_some : ∀ {ds : List Dt} {ns : List Int}, intsOf ds = some ns → ds = ns.map Dt.int
  | [], _, e => by cases e; rfl
  | d :: ds, ns, e => by
    cases d <;> first | (unfold intsOf at e; cases e; done) | skip
    unfold intsOf at e
    split at e
    · rename_i is h
      cases e
      rw [intsOf_some h]; rfl
    all_goals cases e
theorem intsOf_map : ∀ ns : List Int, intsOf (ns.map Dt.int) = some ns
  | [] => rfl
  | n :: ns => by show (match intsOf (ns.map Dt.int) with | some is => some (n :: is) | none => none) = _; rw [intsOf_map ns]
def cSum : List Dt → Option Dt
  | [.lst ds] => match intsOf ds with
    | some ns => some (.int ns.sum)
    | none => none
  | _ => none
theorem n_sum : OpN K (rSum K) cSum := fun g H xs ds d Q hs r e k => by
  unfold cSum at e
  split at e
  · split at e
    · rename_i ns h
      cases e
      obtain ⟨v, rfl, a, ys, rfl, hx, rx⟩ := r.one
      rw [intsOf_some h] at rx
      rw [rx.ints] at hx
      exact ⟨_, _, rfl, SqL.of hx, k.int⟩
    · cases e
  · cases e
def maxL : Int → List Int → Int
  | m, [] => m
  | m, x :: xs => maxL (if m < x then x else m) xs
def minL : Int → List Int → Int
  | m, [] => m
  | m, x :: xs => minL (if x < m then x else m) xs
theorem maxL_is : ∀ (xs : List Int) (m k : Int), k ∈ m :: xs → (∀ y ∈ m :: xs, y ≤ k) → maxL m xs = k
  | [], m, k, h, _ => by simpa [maxL, eq_comm] using h
  | x :: xs, m, k, h, q => by
    unfold maxL
    refine maxL_is xs _ k ?_ ?_
    · have h1 := q m (by simp)
      have h2 := q x (by simp)
      simp only [List.mem_cons] at h ⊢
      split
      · rcases h with h | h | h
        · left; omega
        · left; omega
        · right; exact h
      · rcases h with h | h | h
        · left; omega
        · left; omega
        · right; exact h
    · intro y hy
      simp only [List.mem_cons] at hy
      rcases hy with hy | hy
      · split at hy
        · exact hy ▸ q x (by simp)
        · exact hy ▸ q m (by simp)
      · exact q y (by simp [hy])
theorem minL_is : ∀ (xs : List Int) (m k : Int), k ∈ m :: xs → (∀ y ∈ m :: xs, k ≤ y) → minL m xs = k
  | [], m, k, h, _ => by simpa [minL, eq_comm] using h
  | x :: xs, m, k, h, q => by
    unfold minL
    refine minL_is xs _ k ?_ ?_
    · have h1 := q m (by simp)
      have h2 := q x (by simp)
      simp only [List.mem_cons] at h ⊢
      split
      · rcases h with h | h | h
        · left; omega
        · left; omega
        · right; exact h
      · rcases h with h | h | h
        · left; omega
        · left; omega
        · right; exact h
    · intro y hy
      simp only [List.mem_cons] at hy
      rcases hy with hy | hy
      · split at hy
        · exact hy ▸ q x (by simp)
        · exact hy ▸ q m (by simp)
      · exact q y (by simp [hy])
def cMax : List Dt → Option Dt
  | [.lst ds] => match intsOf ds with
    | some (n :: ns) => some (.int (maxL n ns))
    | _ => none
  | _ => none
def cMin : List Dt → Option Dt
  | [.lst ds] => match intsOf ds with
    | some (n :: ns) => some (.int (minL n ns))
    | _ => none
  | _ => none
theorem n_max : OpN K (rMax K) cMax := fun g H xs ds d Q hs r e k => by
  unfold cMax at e
  split at e
  · split at e
    · rename_i n ns h
      cases e
      obtain ⟨v, rfl, a, ys, rfl, hx, rx⟩ := r.one
      rw [intsOf_some h] at rx
      rw [rx.ints] at hx
      refine ⟨_, _, rfl, SqL.of hx, by simp, fun m hm hq => ?_⟩
      rw [← maxL_is ns n m hm hq]
      exact k.int
    · cases e
  · cases e
theorem n_min : OpN K (rMin K) cMin := fun g H xs ds d Q hs r e k => by
  unfold cMin at e
  split at e
  · split at e
    · rename_i n ns h
      cases e
      obtain ⟨v, rfl, a, ys, rfl, hx, rx⟩ := r.one
      rw [intsOf_some h] at rx
      rw [rx.ints] at hx
      refine ⟨_, _, rfl, SqL.of hx, by simp, fun m hm hq => ?_⟩
      rw [← minL_is ns n m hm hq]
      exact k.int
    · cases e
  · cases e
/-- ints, ascending -/
def insI (x : Int) : List Int → List Int
  | [] => [x]
  | y :: ys => if x ≤ y then x :: y :: ys else y :: insI x ys
def srtI : List Int → List Int
  | [] => []
  | x :: xs => insI x (srtI xs)
theorem insI_perm (x : Int) : ∀ ys : List Int, (insI x ys).Perm (x :: ys)
  | [] => .refl _
  | y :: ys => by
    unfold insI
    split
    · exact .refl _
    · exact ((insI_perm x ys).cons y).trans (.swap x y ys)
theorem srtI_perm : ∀ xs : List Int, (srtI xs).Perm xs
  | [] => .refl _
  | x :: xs => (insI_perm x _).trans ((srtI_perm xs).cons x)
theorem insI_srt (x : Int) : ∀ ys : List Int, ys.Pairwise (· ≤ ·) → (insI x ys).Pairwise (· ≤ ·)
  | [], _ => List.pairwise_singleton _ _
  | y :: ys, h => by
    unfold insI
    rw [List.pairwise_cons] at h
    split
    · rename_i hxy
      refine List.pairwise_cons.mpr ⟨fun z hz => ?_, List.pairwise_cons.mpr h⟩
      rcases List.mem_cons.mp hz with e | hz
      · exact e ▸ hxy
      · exact Int.le_trans hxy (h.1 z hz)
    · rename_i hxy
      refine List.pairwise_cons.mpr ⟨fun z hz => ?_, insI_srt x ys h.2⟩
      rcases List.mem_cons.mp ((insI_perm x ys).mem_iff.mp hz) with e | hz
      · omega
      · exact h.1 z hz
theorem srtI_srt : ∀ xs : List Int, (srtI xs).Pairwise (· ≤ ·)
  | [] => .nil
  | x :: xs => insI_srt x _ (srtI_srt xs)
theorem srt_uniq : ∀ {xs ys : List Int}, xs.Perm ys → xs.Pairwise (· ≤ ·) → ys.Pairwise (· ≤ ·) → xs = ys
  | [], ys, p, _, _ => (List.nil_perm.mp p).symm
  | x :: xs, [], p, _, _ => by cases p.length_eq
  | x :: xs, y :: ys, p, h1, h2 => by
    rw [List.pairwise_cons] at h1 h2
    have e : x = y := by
      have m1 : x ∈ y :: ys := p.mem_iff.mp (List.mem_cons_self)
      have m2 : y ∈ x :: xs := p.mem_iff.mpr (List.mem_cons_self)
      rcases List.mem_cons.mp m1 with a | a
      · exact a
      · rcases List.mem_cons.mp m2 with b | b
        · exact b.symm
        · exact Int.le_antisymm (h1.1 y b) (h2.1 x a)
    subst e
    rw [srt_uniq (List.perm_cons x |>.mp p) h1.2 h2.2]
def cSortedI : List Dt → Option Dt
  | [.lst ds] => match intsOf ds with
    | some ns => some (.lst ((srtI ns).map Dt.int))
    | none => none
  | _ => none
theorem n_sortedI : OpN K (rSortedI K) cSortedI := fun g H xs ds d Q hs r e k => by
  unfold cSortedI at e
  split at e
  · split at e
    · rename_i ns h
      cases e
      obtain ⟨v, rfl, a, ys, rfl, hx, rx⟩ := r.one
      rw [intsOf_some h] at rx
      rw [rx.ints] at hx
      refine ⟨_, _, rfl, SqL.of hx, fun ns' p hp hq hn => ?_⟩
      rw [srt_uniq (hp.trans (srtI_perm ns).symm) hq (srtI_srt ns)]
      exact k.lst hs RpL.of_ints hn
    · cases e
  · cases e
def cTuple : List Dt → Option Dt
  | [.lst ds] => some (.tup ds)
  | [.tup ds] => some (.tup ds)
  | _ => none
theorem n_tuple : OpN K (fun xs H Q => ∃ p ys, xs = [.ref p] ∧ ((SqL K H p ys ∧ ∀ l, H l = none → Q (.ref l) (upd H l (.tup ys))) ∨ (SqT K H p ys ∧ Q (.ref p) H))) cTuple := fun g H xs ds d Q hs r e k => by
  unfold cTuple at e
  split at e
  · cases e
    obtain ⟨v, rfl, a, ys, rfl, hx, rx⟩ := r.one
    exact ⟨_, _, rfl, .inl ⟨SqL.of hx, fun l hl => k.tup hs rx hl⟩⟩
  · cases e
    obtain ⟨v, rfl, a, ys, rfl, hx, rx⟩ := r.one
    exact ⟨_, _, rfl, .inr ⟨sqT_mono hs hx, k.same ⟨a, ys, rfl, hx, rx⟩⟩⟩
  · cases e
def cList : List Dt → Option Dt
  | [.lst ds] => some (.lst ds)
  | [.tup ds] => some (.lst ds)
  | _ => none
theorem n_list : OpN K (fun xs H Q => ∃ p ys, xs = [.ref p] ∧ (SqL K H p ys ∨ SqT K H p ys) ∧ ∀ l, H l = none → Q (.ref l) (upd H l (.lst ys))) cList := fun g H xs ds d Q hs r e k => by
  unfold cList at e
  split at e
  · cases e
    obtain ⟨v, rfl, a, ys, rfl, hx, rx⟩ := r.one
    exact ⟨_, _, rfl, .inl (SqL.of hx), fun l hl => k.lst hs rx hl⟩
  · cases e
    obtain ⟨v, rfl, a, ys, rfl, hx, rx⟩ := r.one
    exact ⟨_, _, rfl, .inr (sqT_mono hs hx), fun l hl => k.lst hs rx hl⟩
  · cases e
/-! cuts -/
def cutD (ds : List Dt) (lo hi : Option Int) : List Dt := (ds.drop (HT.sIx ds.length 0 lo)).take (HT.sIx ds.length ds.length hi - HT.sIx ds.length 0 lo)
theorem cut_rp {ds : List Dt} {xs : List V} {lo hi : Option Int} (r : RpL K g ds xs) : RpL K g (cutD ds lo hi) (cutV xs lo hi) := by
  unfold cutD cutV
  rw [r.length]
  exact (r.drop _).take _
def oSl (lo hi : Option Int) : Dt → Option Dt
  | .lst ds => some (.lst (cutD ds lo hi))
  | .tup ds => some (.tup (cutD ds lo hi))
  | _ => none
def rSlAll (K : PySem.W.Frag) : V → Option Int → Option Int → Hp → VK → Prop := fun x lo hi H Q => rSlL K x lo hi H Q ∨ rSlA K x lo hi H Q
theorem o_sl {X : Cx} : SlR X (rSlAll X.K) := sl_list.or sl_tupA
theorem r_sl {x : V} {dx d : Dt} {lo hi : Option Int} (hs : ∀ a o, g.F a = some o → H a = some o) (vx : Vw K g H dx x) (e : oSl lo hi dx = some d) (k : Gives K g H d Q) : rSlAll K x lo hi H Q := by
  unfold oSl at e
  split at e
  · cases e
    obtain ⟨a, xs, ev, hx, rx⟩ := vx
    exact .inl ⟨a, xs, ev, SqL.of hx, fun p hp => k.lst hs (cut_rp rx) hp⟩
  · cases e
    obtain ⟨a, xs, ev, hx, rx⟩ := vx
    refine .inr ⟨a, xs, ev, sqT_mono hs hx, fun ⟨h1, h2⟩ => ?_, fun _ p hp => k.tup hs (cut_rp rx) hp⟩
    subst ev
    refine k.same ⟨a, xs, rfl, hx, ?_⟩
    have := cut_rp (lo := lo) (hi := hi) rx
    unfold cutV at this
    rw [h1, h2] at this
    simpa using this
  · cases e
end
end Lw

end
section
set_option Elab.async false
set_option linter.all false
set_option maxRecDepth 100000
set_option maxHeartbeats 2000000
namespace Lw
open PySem PySem.Spec L2

/-! ### calls -/
section
variable {X : Cx} {pos : Pos}
def mRds : List RV → M (List Dt)
  | [] => mRet []
  | r :: rs => mBind (mRd r) fun d => mBind (mRds rs) fun ds => mRet (d :: ds)
def fCallB (φ : List Dt → Option Dt) (fa : M (List RV)) : M Dt := mBind fa fun rs => mBind (mRds rs) fun ds => mLift (φ ds)
theorem mRds_view {K : PySem.W.Frag} {B : Bs} {g : Gh} {H : Hp} {σ : St} {ρ ρ' : En} {w w' : Wd} (R : Rel K B g H σ ρ w) : ∀ {rs : List RV} {vs : List V} {ds : List Dt}, RvL K g σ rs vs → mRds rs ρ w = some (ds, ρ', w') → ρ' = ρ ∧ w' = w ∧ RvV K g H ds vs
  | [], [], _, _, e => by cases e; exact ⟨rfl, rfl, trivial⟩
  | r :: rs, v :: vs, ds, ⟨q1, q2⟩, e => by
    obtain ⟨d, ρ1, w1, e1, e2⟩ := mBind_some e
    obtain ⟨h1, rfl, rfl⟩ := mRd_some e1
    obtain ⟨ds', ρ2, w2, e3, e4⟩ := mBind_some e2
    cases e4
    obtain ⟨rfl, rfl, h3⟩ := mRds_view R q2 e3
    exact ⟨rfl, rfl, R.view q1 h1, h3⟩
  | [], _ :: _, _, q, _ => q.elim
  | _ :: _, [], _, q, _ => q.elim
variable {e : Expr} {es : List Expr} {id : String} {x : Str} {r : List V → Hp → VK → Prop} {φ : List Dt → Option Dt} {fa : M (List RV)} {p : Pos}
theorem callB_read {K : PySem.W.Frag} (hr : OpN K r φ) {σ : St} {H : Hp} {Q : VK} (h : tE K (fCallB φ fa) σ H Q) : tCB r (tAR K fa) σ H Q := by
  obtain ⟨B, g, ρ, w, d, ρ', w', R, e, k⟩ := h
  obtain ⟨rs, ρ1, w1, e1, f1⟩ := mBind_some e
  obtain ⟨ds, ρ2, w2, e2, f2⟩ := mBind_some f1
  obtain ⟨h5, e5, e6⟩ := mLift_some f2
  subst e5 e6
  refine ⟨B, g, ρ, w, rs, ρ1, w1, R, e1, fun vs g1 H1 R1 l1 q1 => ?_⟩
  obtain ⟨e5, e6, q⟩ := mRds_view R1 q1 e2
  subst e5 e6
  exact hr g1 H1 vs ds d Q R1.sub q h5 fun v g' H' G rp => k v g' H' (R1.grow G) (l1.trans G.le) rp
theorem se_callB (hc : CallR X (.builtin id) r) (hr : OpN X.K r φ) (hm : X.mg x = none) (ha : SAR X (e :: es) fa) (hg : Gl X x := by rfl) (hv : bootBuiltins x = some (.builtin id) := by decide +kernel) (hn : x ≠ "__name__" := by decide) (hdb : (x == ("__debug__" : Str)) = false := by decide)
    (he : starEach (e :: es) X.env = (false, eval e X.env) :: starEach es X.env := by rfl) (hpl : (backTo pos (starEach es X.env)).any (·.1) = false := by rfl) : SE X (.Call (.Name x p) (e :: es) [] pos) (fCallB φ fa) :=
  pe_weak (pe_callB hc hg hm hv ha hn hdb he hpl) fun _ _ _ h => callB_read hr h
theorem se_callT {T : String} (hc : CallR X (.type T) r) (hr : OpN X.K r φ) (hm : X.mg x = none) (ha : SAR X (e :: es) fa) (hg : Gl X x := by rfl) (hv : bootBuiltins x = some (.type T) := by decide +kernel) (hn : x ≠ "__name__" := by decide) (hdb : (x == ("__debug__" : Str)) = false := by decide)
    (he : starEach (e :: es) X.env = (false, eval e X.env) :: starEach es X.env := by rfl) (hpl : (backTo pos (starEach es X.env)).any (·.1) = false := by rfl) : SE X (.Call (.Name x p) (e :: es) [] pos) (fCallB φ fa) :=
  pe_weak (pe_callTy hc hg hm hv ha hn hdb he hpl) fun _ _ _ h => callB_read hr h
def PlainD (b : Expr) : Prop := PlainIx b
theorem se_ix {a b : Expr} {fa fb : M RV} (hu : X.A.units + 1 < cLine) (ha : SR X a fa) (hb : SR X b fb) (hs : PlainIx b := by intro _ _; rfl) : SE X (.Subscript a b pos) (fOp2 oIx fa fb) :=
  pe_weak (pe_ix (ix_all hu) ha hb hs) fun _ _ _ h => op2_read r_ix h
/-! cuts -/
def tOI (K : PySem.W.Frag) (f : M (Option Int)) : TO := fun σ H Q => ∃ B g ρ w d ρ' w', Rel K B g H σ ρ w ∧ f ρ w = some (d, ρ', w') ∧ ∀ g' H', Rel K B g' H' σ ρ' w' → Gle g g' → Q d H'
abbrev SO (X : Cx) (e : Option Expr) (f : M (Option Int)) : Prop := PO X e (tOI X.K f)
theorem po_weak {e : Option Expr} {t u : TO} (h : PO X e t) (k : ∀ σ H Q, u σ H Q → t σ H Q) : PO X e u := ⟨fun pins s σ H Q I q => h.run pins s σ H Q I (k σ H Q q)⟩
theorem so_none : SO X none (mRet none) := po_weak po_none fun σ H Q ⟨B, g, ρ, w, d, ρ', w', R, e, k⟩ => by
  cases e; exact k g H R (.refl g)
def asI : Dt → Option Int
  | .int i => some i
  | _ => none
theorem asI_some {d : Dt} {b : Int} (h : asI d = some b) : d = .int b := by
  cases d <;> first | (cases h; rfl) | cases h
def cI (f : M Dt) : M (Option Int) := mBind f fun d => mLift ((asI d).map some)
theorem so_some {e : Expr} {f : M Dt} (h : SE X e f) : SO X (some e) (cI f) := po_weak (po_some h) fun σ H Q ⟨B, g, ρ, w, d, ρ', w', R, e, k⟩ => by
  obtain ⟨x, ρ1, w1, e1, f1⟩ := mBind_some e
  obtain ⟨h1, rfl, rfl⟩ := mLift_some f1
  obtain ⟨i, hi, e2⟩ := Option.map_eq_some_iff.mp h1
  subst e2
  rw [asI_some hi] at e1
  exact ⟨B, g, ρ, w, _, _, _, R, e1, fun v g' H' R' l r => ⟨i, r, k g' H' R' l⟩⟩
def fSl (fa : M RV) (fl fh : M (Option Int)) : M Dt := mBind fa fun a => mBind fl fun lo => mBind fh fun hi => mBind (mRd a) fun d => mLift (oSl lo hi d)
theorem se_slice {a : Expr} {lo hi : Option Expr} {p2 : Pos} {fa : M RV} {fl fh : M (Option Int)} (ha : SR X a fa) (hl : SO X lo fl) (hh : SO X hi fh) : SE X (.Subscript a (.Slice lo hi none p2) pos) (fSl fa fl fh) :=
  pe_weak (pe_slice o_sl ha hl hh) fun σ H Q ⟨B, g, ρ, w, d, ρ', w', R, e, k⟩ => by
    obtain ⟨ra, ρ1, w1, e1, f1⟩ := mBind_some e
    obtain ⟨l, ρ2, w2, e2, f2⟩ := mBind_some f1
    obtain ⟨u, ρ3, w3, e3, f3⟩ := mBind_some f2
    obtain ⟨da, ρ4, w4, e4, f4⟩ := mBind_some f3
    obtain ⟨h4, rfl, rfl⟩ := mRd_some e4
    obtain ⟨h5, rfl, rfl⟩ := mLift_some f4
    refine ⟨B, g, ρ, w, ra, ρ1, w1, R, e1, fun x g1 H1 R1 l1 q1 => ⟨B, g1, ρ1, w1, l, ρ2, w2, R1, e2, fun g2 H2 R2 l2 => ⟨B, g2, ρ2, w2, u, _, _, R2, e3, fun g3 H3 R3 l3 => ?_⟩⟩⟩
    exact r_sl R3.sub (R3.view (q1.mono (l2.trans l3)) h4) h5 fun v g' H' G rp => k v g' H' (R3.grow G) (l1.trans (l2.trans (l3.trans G.le))) rp
end

/-! ### the defs of the text -/
structure Stp (g : Gh) (H : Hp) (g' : Gh) (H' : Hp) (w' : Wd) : Prop where
  sub : ∀ a o, g'.F a = some o → H' a = some o
  src : SrcOk g' H' w'
  keep : ∀ a o, H a = some o → ¬ IsSrc g a → H' a = some o
  there : ∀ a, H a ≠ none → H' a ≠ none
  newF : ∀ a o, g'.F a = some o → g.F a = some o ∨ H a = none
  le : Gle g g'
  srcN : g.S = none → ∀ a, IsSrc g' a → H a = none
  ad : g'.ad = g.ad
theorem Rel.stp {K : PySem.W.Frag} {B : Bs} {g g' : Gh} {H H' : Hp} {σ : St} {ρ : En} {w w' : Wd} (R : Rel K B g H σ ρ w) (T : Stp g H g' H' w') : Rel K B g' H' σ ρ w' := by
  have src2 : ∀ a, IsSrc g' a → IsSrc g a ∨ (g.S = none ∧ H a = none) := fun a q => by
    rcases T.le.S with z | z
    · exact .inr ⟨z, T.srcN z a q⟩
    · exact .inl ((isSrc_of_S z).mp q)
  have own : ∀ a, OwnA B g a → H a ≠ none → OwnA B g' a := fun a h hH => by
    refine ⟨?_, h.Fr, h.H0, h.hid, fun q => ?_⟩
    · cases e : g'.F a with
      | none => rfl
      | some o =>
        rcases T.newF a o e with z | z
        · rw [h.F] at z; cases z
        · exact absurd z hH
    · rcases src2 a q with z | ⟨_, z⟩
      · exact h.src z
      · exact hH z
  refine ⟨T.sub, T.src, fun a q => ?_, fun a o h => ?_, fun a h => T.there a (R.old a h), fun a o h => ?_, R.le.trans T.le, fun e a q => ?_, fun a q => ?_, R.len, fun i s e => ?_, by rw [T.ad]; exact R.sep⟩
  · rcases src2 a q with z | ⟨_, z⟩
    · exact R.srcF a z
    · cases e : B.Fr a with
      | none => rfl
      | some o => rw [R.keep a o e] at z; cases z
  · refine T.keep a o (R.keep a o h) fun q => ?_
    rw [R.srcF a q] at h; cases h
  · rcases T.newF a o h with z | z
    · exact R.newF _ _ z
    · refine .inr ?_
      cases e : B.H0 a with
      | none => rfl
      | some u => exact absurd z (R.old a (by rw [e]; simp))
  · rcases src2 a q with z | ⟨_, z⟩
    · exact R.srcN e a z
    · cases e2 : B.H0 a with
      | none => rfl
      | some u => exact absurd z (R.old a (by rw [e2]; simp))
  · obtain ⟨h1, h2, h3⟩ := R.hid a q
    refine ⟨?_, T.there a h2, fun z => ?_⟩
    · cases e : g'.F a with
      | none => rfl
      | some o =>
        rcases T.newF a o e with z | z
        · rw [h1] at z; cases z
        · exact absurd z h2
    · rcases src2 a z with y | ⟨_, y⟩
      · exact h3 y
      · exact h2 y
  · obtain ⟨o, e1, h1⟩ := R.slots i s e
    refine ⟨o, e1, ?_⟩
    cases s with
    | fr d => obtain ⟨v, ev, r⟩ := h1; exact ⟨v, ev, r.mono T.le⟩
    | owL ds =>
      obtain ⟨ev, q, xs, hx, r⟩ := h1
      exact ⟨by rw [T.ad]; exact ev, by rw [T.ad]; exact own _ q (by rw [hx]; simp), xs, by rw [T.ad]; exact T.keep _ _ hx q.src, r.mono T.le⟩
    | owK ks ds =>
      obtain ⟨ev, q, xs, hx, k, r⟩ := h1
      exact ⟨by rw [T.ad]; exact ev, by rw [T.ad]; exact own _ q (by rw [hx]; simp), xs, by rw [T.ad]; exact T.keep _ _ hx q.src, k, r.mono T.le⟩
    | owX ks ds =>
      obtain ⟨ev, q, xs, hx, k, r⟩ := h1
      exact ⟨by rw [T.ad]; exact ev, by rw [T.ad]; exact own _ q (by rw [hx]; simp), xs, by rw [T.ad]; exact T.keep _ _ hx q.src, k, r.mono T.le⟩
/-- a def's value: of the arguments and the draws -/
abbrev Fn := List Dt → Wd → Option (Dt × Wd)
def spM (K : PySem.W.Frag) (m : Fn) (n : Nat) : Sp := fun vs H Q _ => vs.length = n ∧ ∃ g w ds d w', (∀ a o, g.F a = some o → H a = some o) ∧ SrcOk g H w ∧ RpL K g ds vs ∧ m ds w = some (d, w') ∧
  ∀ v g' H', Stp g H g' H' w' → Rp K g' d v → Q v H'
/-- the def x stands in the module and does m -/
def Df (P : Program) (w : World) (K : PySem.W.Frag) (mg : Str → Option Value) (base : Heap) (x : Str) (ps : List Str) (k : Nat) (m : Fn) : Prop :=
  ∃ f fd, mg x = some (.ref f) ∧ PySem.W.keepIn K (.ref f) = true ∧ Binds K fd ps [] ∧ FnOk P w K mg base CX0 k f fd ps (spM K m ps.length)
def fCall (m : Fn) (fa : M (List Dt)) : M Dt := mBind fa fun ds ρ w => match m ds w with
  | some (d, w') => some (d, ρ, w')
  | none => none
section
variable {X : Cx} {pos p : Pos} {e : Expr} {es : List Expr} {x : Str} {ps : List Str} {k : Nat} {m : Fn} {fa : M (List Dt)}
theorem call_read {K : PySem.W.Frag} {n : Nat} {σ : St} {H : Hp} {Q : VK} (hn : ∀ ρ w r, fa ρ w = some r → r.1.length = n) (h : tE K (fCall m fa) σ H Q) : tCall (spM K m n) [] E0 (tAE K fa) σ H Q := by
  obtain ⟨B, g, ρ, w, d, ρ', w', R, e, q⟩ := h
  obtain ⟨ds, ρ1, w1, e1, f1⟩ := mBind_some e
  refine ⟨B, g, ρ, w, ds, ρ1, w1, R, e1, fun vs g1 H1 R1 l1 r1 => ?_⟩
  show spM K m n (vs ++ []) H1 Q E0
  rw [List.append_nil]
  have hl := hn _ _ _ e1
  split at f1
  · rename_i d1 w2 hm
    cases f1
    exact ⟨by rw [← r1.length]; exact hl, g1, w1, ds, _, _, R1.sub, R1.src, r1, hm, fun v g' H' T rp => q v g' H' (R1.stp T) (l1.trans T.le) rp⟩
  · cases f1
def aLen {α : Type} (n : Nat) (f : M (List α)) : Prop := ∀ ρ w r, f ρ w = some r → r.1.length = n
theorem aLen_nil {α : Type} : aLen 0 (aNil : M (List α)) := fun ρ w r e => by cases e; rfl
theorem aLen_cons {α : Type} {n : Nat} {f : M α} {k : M (List α)} (h : aLen n k) : aLen (n + 1) (aCons f k) := fun ρ w r e => by
  obtain ⟨a, ρ1, w1, e1, f1⟩ := mBind_some (r := r) e
  obtain ⟨as, ρ2, w2, e2, f2⟩ := mBind_some f1
  cases f2
  exact congrArg (· + 1) (h _ _ _ e2)
theorem se_call (D : Df X.prog X.w X.K X.mg X.base x ps k m) (hr : Room k X.A) (ha : SA X (e :: es) fa) (hn : aLen ps.length fa) (hg : Gl X x := by rfl) (hdb : (x == ("__debug__" : Str)) = false := by decide)
    (he : starEach (e :: es) X.env = (false, eval e X.env) :: starEach es X.env := by rfl) (hpl : (backTo pos (starEach es X.env)).any (·.1) = false := by rfl) : SE X (.Call (.Name x p) (e :: es) [] pos) (fCall m fa) := by
  obtain ⟨f, fd, hm, hk, hb, F⟩ := D
  exact pe_weak (pe_call F hr hg hm hk hb .nil pass0 ha hdb he hpl) fun _ _ _ h => call_read hn h
theorem se_call0 (D : Df X.prog X.w X.K X.mg X.base x [] k m) (hr : Room k X.A) (hg : Gl X x := by rfl) (hdb : (x == ("__debug__" : Str)) = false := by decide) : SE X (.Call (.Name x p) [] [] pos) (fCall m aNil) := by
  obtain ⟨f, fd, hm, hk, hb, F⟩ := D
  refine pe_weak (pe_call0 F hr hg hm hk hb .nil pass0 hdb) fun σ H Q h => ?_
  obtain ⟨B, g, ρ, w, d, ρ', w', R, e, q⟩ := call_read (n := 0) aLen_nil h
  cases e
  exact q [] g H R (.refl g) trivial
end

/-! ### statements -/
inductive Fl where
  | nx | bk | ct | rt (d : Dt)
def tS (K : PySem.W.Frag) (f : M Fl) : TS := fun D σ H => ∃ B g ρ w r ρ' w', Rel K B g H σ ρ w ∧ f ρ w = some (r, ρ', w') ∧ match r with
  | .nx => ∀ σ' g' H', Rel K B g' H' σ' ρ' w' → Gle g g' → D.nx σ' H'
  | .bk => ∀ σ' g' H', Rel K B g' H' σ' ρ' w' → Gle g g' → D.bk σ' H'
  | .ct => ∀ σ' g' H', Rel K B g' H' σ' ρ' w' → Gle g g' → D.ct σ' H'
  | .rt d => ∀ v σ' g' H', Rel K B g' H' σ' ρ' w' → Gle g g' → Rp K g' d v → D.rt v H'
abbrev SS (X : Cx) (st : Stmt) (f : M Fl) : Prop := PS X st (tS X.K f)
abbrev SSs (X : Cx) (st : List Stmt) (f : M Fl) : Prop := PSs X st (tS X.K f)
def fSeq (f k : M Fl) : M Fl := mBind f fun r => match r with
  | .nx => k
  | r => mRet r
def fNx : M Fl := mRet .nx
def fBk : M Fl := mRet .bk
def fCt : M Fl := mRet .ct
def fRet (f : M Dt) : M Fl := mBind f fun d => mRet (.rt d)
def fRetN : M Fl := mRet (.rt .non)
def fDrop (f : M Dt) : M Fl := mBind f fun _ => mRet .nx
def fIfS (c : M Bool) (f k : M Fl) : M Fl := mBind c fun b => if b then f else k
def setFr (i : Nat) (d : Dt) : M Fl := fun ρ w => some (.nx, ρ.set i (some (.fr d)), w)
def fSet (i : Nat) (f : M Dt) : M Fl := mBind f fun d => setFr i d
section
variable {X : Cx} {st : Stmt} {rest : List Stmt} {f k : M Fl} {pos : Pos} {e : Expr} {fe : M Dt} {K : PySem.W.Frag} {B : Bs} {g g' : Gh} {H H' : Hp} {σ : St} {ρ : En} {w : Wd}
theorem Rel.set {i : Nat} {d : Dt} {v : V} (R : Rel K B g H σ ρ w) (r : Rp K g d v) : Rel K B g H (σ.set i (some v)) (ρ.set i (some (.fr d))) w := by
  refine ⟨R.sub, R.src, R.srcF, R.keep, R.old, R.newF, R.le, R.srcN, R.hid, by simp [R.len], fun j s e => ?_, fun j k n a b => R.sep j k n (owAt_set a).1 (owAt_set b).1⟩
  by_cases z : j = i
  · subst z
    rw [List.getElem?_set] at e
    split at e
    · split at e
      · rename_i h _
        cases e
        refine ⟨some v, ?_, v, rfl, r⟩
        rw [List.getElem?_set_self (by rw [R.len]; assumption)]
      · cases e
    · rename_i n; exact absurd rfl n
  · rw [List.getElem?_set_ne (Ne.symm z)] at e
    obtain ⟨o, eo, q⟩ := R.slots j s e
    exact ⟨o, by rw [List.getElem?_set_ne (Ne.symm z)]; exact eo, q⟩
theorem ss_cons (h : SS X st f) (hk : SSs X rest k) : SSs X (st :: rest) (fSeq f k) :=
  pss_weak (pss_cons h hk) fun D σ H ⟨B, g, ρ, w, r, ρ', w', R, e, q⟩ => by
    obtain ⟨r1, ρ1, w1, e1, e2⟩ := mBind_some e
    refine ⟨B, g, ρ, w, r1, ρ1, w1, R, e1, ?_⟩
    cases r1 with
    | nx =>
      intro σ1 g1 H1 R1 l1
      refine ⟨B, g1, ρ1, w1, r, ρ', w', R1, e2, ?_⟩
      cases r with
      | nx => exact fun σ' g' H' R' l => q σ' g' H' R' (l1.trans l)
      | bk => exact fun σ' g' H' R' l => q σ' g' H' R' (l1.trans l)
      | ct => exact fun σ' g' H' R' l => q σ' g' H' R' (l1.trans l)
      | rt d => exact fun v σ' g' H' R' l rp => q v σ' g' H' R' (l1.trans l) rp
    | bk => cases e2; exact q
    | ct => cases e2; exact q
    | rt d => cases e2; exact q
theorem ss_nil : SSs X [] fNx := pss_weak pss_nil fun D σ H ⟨B, g, ρ, w, r, ρ', w', R, e, q⟩ => by
  cases e; exact q σ g H R (.refl g)
theorem ss_one (h : SS X st f) : SSs X [st] f := pss_one h
theorem ss_pass : SS X (.Pass pos) fNx := ps_weak ps_pass fun D σ H ⟨B, g, ρ, w, r, ρ', w', R, e, q⟩ => by
  cases e; exact q σ g H R (.refl g)
theorem ss_break : SS X (.Break pos) fBk := ps_weak ps_break fun D σ H ⟨B, g, ρ, w, r, ρ', w', R, e, q⟩ => by
  cases e; exact q σ g H R (.refl g)
theorem ss_continue : SS X (.Continue pos) fCt := ps_weak ps_continue fun D σ H ⟨B, g, ρ, w, r, ρ', w', R, e, q⟩ => by
  cases e; exact q σ g H R (.refl g)
theorem ss_never : SS X st mFail := ps_weak ps_never fun D σ H ⟨B, g, ρ, w, r, ρ', w', R, e, q⟩ => by cases e
theorem ss_ret (he : SE X e fe) : SS X (.Return (some e) pos) (fRet fe) :=
  ps_weak (ps_ret he) fun D σ H ⟨B, g, ρ, w, r, ρ', w', R, e, q⟩ => by
    obtain ⟨d, ρ1, w1, e1, e2⟩ := mBind_some e
    cases e2
    exact ⟨B, g, ρ, w, d, _, _, R, e1, fun v g' H' R' l rp => q v σ g' H' R' l rp⟩
theorem ss_retN : SS X (.Return none pos) fRetN := ps_weak ps_retN fun D σ H ⟨B, g, ρ, w, r, ρ', w', R, e, q⟩ => by
  cases e; exact q _ σ g H R (.refl g) rfl
theorem ss_expr (he : SE X e fe) (hs : swapsWith e none pos.line X.env = pure false := by rfl) : SS X (.Expr e pos) (fDrop fe) :=
  ps_weak (ps_expr he hs) fun D σ H ⟨B, g, ρ, w, r, ρ', w', R, e, q⟩ => by
    obtain ⟨d, ρ1, w1, e1, e2⟩ := mBind_some e
    cases e2
    exact ⟨B, g, ρ, w, d, _, _, R, e1, fun v g' H' R' l rp => q σ g' H' R' l⟩
theorem ss_if {c : Expr} {a b : List Stmt} {fc : M Bool} (hc : ST X c fc) (ha : SSs X a f) (hb : SSs X b k) : SS X (.If c a b pos) (fIfS fc f k) :=
  ps_weak (ps_if hc ha hb) fun D σ H ⟨B, g, ρ, w, r, ρ', w', R, e, q⟩ => by
    obtain ⟨x, ρ1, w1, e1, e2⟩ := mBind_some e
    refine ⟨B, g, ρ, w, x, ρ1, w1, R, e1, fun g1 H1 R1 l1 => ?_⟩
    have q' : match (motive := Fl → Prop) r with
      | .nx => ∀ σ' g' H', Rel X.K B g' H' σ' ρ' w' → Gle g1 g' → D.nx σ' H'
      | .bk => ∀ σ' g' H', Rel X.K B g' H' σ' ρ' w' → Gle g1 g' → D.bk σ' H'
      | .ct => ∀ σ' g' H', Rel X.K B g' H' σ' ρ' w' → Gle g1 g' → D.ct σ' H'
      | .rt d => ∀ v σ' g' H', Rel X.K B g' H' σ' ρ' w' → Gle g1 g' → Rp X.K g' d v → D.rt v H' := by
      cases r with
      | nx => exact fun σ' g' H' R' l => q σ' g' H' R' (l1.trans l)
      | bk => exact fun σ' g' H' R' l => q σ' g' H' R' (l1.trans l)
      | ct => exact fun σ' g' H' R' l => q σ' g' H' R' (l1.trans l)
      | rt d => exact fun v σ' g' H' R' l rp => q v σ' g' H' R' (l1.trans l) rp
    cases x with
    | true => exact ⟨B, g1, ρ1, w1, r, ρ', w', R1, e2, q'⟩
    | false => exact ⟨B, g1, ρ1, w1, r, ρ', w', R1, e2, q'⟩
theorem ss_set (i : Nat) {x : Str} {pos' : Pos} (he : SE X e fe) (hN : X.N.Nodup) (hi : X.N[i]? = some x := by rfl) (hx : Loc X.env.scope x := by first | exact Or.inl rfl | exact Or.inr rfl) (hs : swapsWith e (some (.Name x pos')) pos.line X.env = pure false := by rfl)
    (hf : X.fn x = true ∨ X.env.scope.names.lookup x = some .local := by first | exact .inl rfl | exact .inr rfl) : SS X (.Assign [.Name x pos'] e pos) (fSet i fe) :=
  ps_weak (ps_set (i := i) hN hi hx he hs hf) fun D σ H ⟨B, g, ρ, w, r, ρ', w', R, e, q⟩ => by
    obtain ⟨d, ρ1, w1, e1, e2⟩ := mBind_some e
    cases e2
    exact ⟨B, g, ρ, w, d, _, _, R, e1, fun v g' H' R' l rp => q _ g' H' (R'.set rp) l⟩
def fPar (i j : Nat) (fa : M (List Dt)) : M Fl := mBind fa fun ds ρ w => match ds with
  | [a, b] => some (.nx, (ρ.set i (some (.fr a))).set j (some (.fr b)), w)
  | _ => none
theorem ss_par (i j : Nat) {x y : Str} {a b : Expr} {fa : M (List Dt)} {px py pt : Pos} {kt k2 pt2} (ha : SA X [a, b] fa) (hN : X.N.Nodup) (hc : X.calm = true := by rfl) (hi : X.N[i]? = some x := by rfl) (hj : X.N[j]? = some y := by rfl) (hij : i ≠ j := by decide)
    (hx : X.env.scope.names.lookup x = some .local := by rfl) (hy : X.env.scope.names.lookup y = some .local := by rfl)
    (hw : swappedStores [.Tuple [.Name x px, .Name y py] kt pt] (.Tuple [a, b] k2 pt2) X.env = pure (some [x, y]) := by rfl)
    (hs : swapsWithSole [.Tuple [.Name x px, .Name y py] kt pt] (.Tuple [a, b] k2 pt2) pos.line X.env = pure false := by rfl) :
    SS X (.Assign [.Tuple [.Name x px, .Name y py] kt pt] (.Tuple [a, b] k2 pt2) pos) (fPar i j fa) :=
  ps_weak (ps_par hc hN hi hj hij hx hy ha hw hs) fun D σ H ⟨B, g, ρ, w, r, ρ', w', R, e, q⟩ => by
    obtain ⟨ds, ρ1, w1, e1, e2⟩ := mBind_some e
    split at e2
    · rename_i da db
      cases e2
      refine ⟨B, g, ρ, w, _, _, _, R, e1, fun vs g' H' R' l rp => ?_⟩
      obtain ⟨v, u, ev, h1, h2⟩ : ∃ v u, vs = [v, u] ∧ Rp X.K g' da v ∧ Rp X.K g' db u := by
        cases vs with
        | nil => exact rp.elim
        | cons v vs => cases vs with
          | nil => exact rp.2.elim
          | cons u us => cases us with
            | nil => exact ⟨v, u, rfl, rp.1, rp.2.1⟩
            | cons _ _ => exact rp.2.2.elim
      exact ⟨v, u, ev, q _ g' H' ((R'.set h1).set h2) l⟩
    · cases e2
def fAug (i : Nat) (φ : Dt → Dt → Option Dt) (fe : M RV) : M Fl := mBind (rVar i) fun a => mBind fe fun b => mBind (mRd b) fun y => mBind (mRd a) fun x => mBind (mLift (φ x y)) fun d => setFr i d
end
end Lw

end
section
set_option Elab.async false
set_option linter.all false
set_option maxRecDepth 100000
set_option maxHeartbeats 2000000
namespace Lw
open PySem PySem.Spec L2

/-! ### targets -/
abbrev FT := Dt → En → Option En
def TGok (K : PySem.W.Frag) (t : TG) (ft : FT) (ix : List Nat) : Prop := ∀ (B : Bs) (g : Gh) (H : Hp) (σ : St) (ρ : En) (w : Wd) (d : Dt) (v : V) (ρ' : En) (Q : St → Hp → Prop), Rel K B g H σ ρ w → Rp K g d v → ft d ρ = some ρ' →
  (∀ σ', Rel K B g H σ' ρ' w → (∀ vs, (∀ j ∈ ix, j ∈ vs) → wipe σ' vs = wipe σ vs) → Q σ' H) → t v σ H Q
def TGsOk (K : PySem.W.Frag) (t : TGs) (ft : List Dt → En → Option En) (ix : List Nat) : Prop := ∀ (B : Bs) (g : Gh) (H : Hp) (σ : St) (ρ : En) (w : Wd) (d : List Dt) (v : List V) (ρ' : En) (Q : St → Hp → Prop), Rel K B g H σ ρ w → RpL K g d v → ft d ρ = some ρ' →
  (∀ σ', Rel K B g H σ' ρ' w → (∀ vs, (∀ j ∈ ix, j ∈ vs) → wipe σ' vs = wipe σ vs) → Q σ' H) → t v σ H Q
def ftN (i : Nat) : FT := fun d ρ => some (ρ.set i (some (.fr d)))
theorem set_comm' {σ : St} {i j : Nat} {x y : Option V} (h : i ≠ j) : (σ.set i x).set j y = (σ.set j y).set i x := List.set_comm _ _ h
theorem wipe_set_out {i : Nat} {x : Option V} : ∀ (vs : List Nat) (σ : St), i ∈ vs → wipe (σ.set i x) vs = wipe σ vs
  | [], _, h => by cases h
  | v :: vs, σ, h => by
    unfold wipe
    by_cases hv : i ∈ vs
    · rw [wipe_set_out vs σ hv]
    · have e : i = v := by
        rcases List.mem_cons.mp h with e | e
        · exact e
        · exact absurd e hv
      subst e
      have : ∀ (us : List Nat) (τ : St), i ∉ us → wipe (τ.set i x) us = (wipe τ us).set i x := by
        intro us
        induction us with
        | nil => intro τ _; rfl
        | cons u us ih =>
          intro τ hn
          unfold wipe
          have n1 : i ≠ u := fun z => hn (z ▸ List.mem_cons_self)
          rw [ih τ fun z => hn (List.mem_cons_of_mem _ z), List.set_comm _ _ n1]
      rw [this vs σ hv, List.set_set]
theorem tg_name {K : PySem.W.Frag} (i : Nat) : TGok K (gName i) (ftN i) [i] := fun B g H σ ρ w d v ρ' Q R r e k => by
  cases e
  exact k _ (R.set r) fun vs h => wipe_set_out vs σ (h i (by simp))
def ftsNil : List Dt → En → Option En
  | [], ρ => some ρ
  | _, _ => none
def ftsCons (f : FT) (k : List Dt → En → Option En) : List Dt → En → Option En
  | d :: ds, ρ => match f d ρ with
    | some ρ1 => k ds ρ1
    | none => none
  | [], _ => none
def ftT (n : Nat) (k : List Dt → En → Option En) : FT
  | .tup ds, ρ => if ds.length == n then k ds ρ else none
  | _, _ => none
theorem tgs_nil {K : PySem.W.Frag} : TGsOk K gNil ftsNil [] := fun B g H σ ρ w d v ρ' Q R r e k => by
  cases d with
  | nil =>
    cases e
    cases v with
    | nil => exact ⟨rfl, k σ R fun _ _ => rfl⟩
    | cons _ _ => exact r.elim
  | cons _ _ => cases e
theorem tgs_cons {K : PySem.W.Frag} {t : TG} {u : TGs} {f : FT} {k : List Dt → En → Option En} {ix iy : List Nat} (h : TGok K t f ix) (hk : TGsOk K u k iy) : TGsOk K (gCons t u) (ftsCons f k) (ix ++ iy) := fun B g H σ ρ w d v ρ' Q R r e kk => by
  cases d with
  | nil => cases e
  | cons d ds =>
    cases v with
    | nil => exact r.elim
    | cons v vs =>
      unfold ftsCons at e
      simp only at e
      split at e
      · rename_i ρ1 e1
        refine ⟨v, vs, rfl, h B g H σ ρ w d v ρ1 _ R r.1 e1 fun σ1 R1 w1 => hk B g H σ1 ρ1 w ds vs ρ' _ R1 r.2 e fun σ2 R2 w2 => kk σ2 R2 fun us hu => ?_⟩
        rw [w2 us fun j hj => hu j (List.mem_append_right _ hj), w1 us fun j hj => hu j (List.mem_append_left _ hj)]
      · cases e
theorem tg_tup {K : PySem.W.Frag} {u : TGs} {k : List Dt → En → Option En} {ix : List Nat} (n : Nat) (hk : TGsOk K u k ix) : TGok K (gTup K n u) (ftT n k) ix := fun B g H σ ρ w d v ρ' Q R r e kk => by
  unfold ftT at e
  split at e
  · obtain ⟨h1, e⟩ := ite_some e
    obtain ⟨a, xs, ev, hx, rx⟩ := r
    exact ⟨a, xs, ev, sqT_mono R.sub hx, by rw [← rx.length]; exact beq_iff_eq.mp h1, hk B g H σ ρ w _ xs ρ' Q R rx e kk⟩
  · cases e

/-! ### what is walked -/
structure Wk (K : PySem.W.Frag) (g0 : Gh) (J : It) (ds : List Dt) : Prop where
  is : ∃ (G : Hp → Prop) (Y : Nat → Hp → V → Hp → Prop), Walk J ds.length G Y ∧ (∀ g H, Gle g0 g → (∀ a o, g.F a = some o → H a = some o) → G H) ∧
    ∀ i x H1 H2 g, i < ds.length → Gle g0 g → (∀ a o, g.F a = some o → H1 a = some o) → Y i H1 x H2 → ∃ d g2, ds[i]? = some d ∧ Grow g H1 g2 H2 ∧ Rp K g2 d x
def tI (K : PySem.W.Frag) (f : M (List Dt)) : TI := fun σ H R => ∃ B g ρ w ds ρ' w', Rel K B g H σ ρ w ∧ f ρ w = some (ds, ρ', w') ∧ ∀ J g' H', Rel K B g' H' σ ρ' w' → Gle g g' → Wk K g' J ds → R J H'
abbrev SI (X : Cx) (tg iter : Expr) (f : M (List Dt)) : Prop := PI X tg iter (tI X.K f)
theorem pi_weak {X : Cx} {tg e : Expr} {t u : TI} (h : PI X tg e t) (k : ∀ σ H Q, u σ H Q → t σ H Q) : PI X tg e u := ⟨fun pins s σ H R I q => h.run pins s σ H R I (k σ H R q)⟩
theorem pi_or {X : Cx} {tg e : Expr} {t u : TI} (h : PI X tg e t) (h' : PI X tg e u) : PI X tg e (fun σ H Q => t σ H Q ∨ u σ H Q) :=
  ⟨fun pins s σ H R I q => q.elim (h.run pins s σ H R I) (h'.run pins s σ H R I)⟩
theorem wk_list {K : PySem.W.Frag} {g : Gh} {a : Addr} {xs : List V} {ds : List Dt} (h : g.F a = some (.lst xs)) (r : RpL K g ds xs) : Wk K g (Itl K a) ds :=
  ⟨⟨_, _, r.length ▸ walk_list (K := K) (a := a) (xs := xs), fun g' H l s => SqL.of (s _ _ (l.F _ _ h)), fun i x H1 H2 g' hi l s y => by
    obtain ⟨rfl, hx⟩ := y
    obtain ⟨d, hd, q⟩ := r.get' hx
    exact ⟨d, g', hd, .refl _ _, q.mono l⟩⟩⟩
theorem wk_tup {K : PySem.W.Frag} {g : Gh} {a : Addr} {xs : List V} {ds : List Dt} (h : SqT K g.F a xs) (r : RpL K g ds xs) : Wk K g (Itt K a) ds :=
  ⟨⟨_, _, r.length ▸ walk_tup (K := K) (a := a) (xs := xs), fun g' H l s => sqT_mono (fun b o q => s _ _ (l.F _ _ q)) h, fun i x H1 H2 g' hi l s y => by
    obtain ⟨rfl, hx⟩ := y
    obtain ⟨d, hd, q⟩ := r.get' hx
    exact ⟨d, g', hd, .refl _ _, q.mono l⟩⟩⟩
theorem wk_rol {K : PySem.W.Frag} {g : Gh} {a : Addr} {ns : List Int} (h : SqL K g.F a (ns.map V.int)) : Wk K g (Itl K a) (ns.map Dt.int) :=
  ⟨⟨_, _, by rw [List.length_map, ← List.length_map (f := V.int)]; exact walk_list (K := K) (a := a) (xs := ns.map V.int), fun g' H l s => sqL_mono (fun b o q => s _ _ (l.F _ _ q)) h, fun i x H1 H2 g' hi l s y => by
    obtain ⟨rfl, hx⟩ := y
    rw [List.getElem?_map] at hx
    cases e : ns[i]? with
    | none => rw [e] at hx; cases hx
    | some n =>
      rw [e] at hx; cases hx
      exact ⟨.int n, g', by rw [List.getElem?_map, e]; rfl, .refl _ _, rfl⟩⟩⟩
def chrs (s : Str) : List Dt := s.cps.toList.map fun c => .str ⟨#[c]⟩
theorem wk_str {K : PySem.W.Frag} {g : Gh} {s : Str} : Wk K g (Its s) (chrs s) :=
  ⟨⟨_, _, by
      have e : (chrs s).length = s.cps.size := by unfold chrs; rw [List.length_map, Array.length_toList]
      rw [e]; exact walk_str (z := s), fun _ _ _ _ => trivial, fun i x H1 H2 g' hi l sb y => by
    obtain ⟨rfl, c, hc, rfl⟩ := y
    refine ⟨.str ⟨#[c]⟩, g', ?_, .refl _ _, rfl⟩
    unfold chrs
    rw [List.getElem?_map, Array.getElem?_toList, hc]; rfl⟩⟩
def itD : Dt → Option (List Dt)
  | .lst ds => some ds
  | .tup ds => some ds
  | .rol ns => some (ns.map Dt.int)
  | .str s => some (chrs s)
  | .dct ks _ => some (ks.map kD)
  | _ => none
theorem wk_keys {K : PySem.W.Frag} {g : Gh} {a : Addr} {od : Obj} {kv : List (Key × V)} (h : g.F a = some (.frz od (.dK kv))) : Wk K g (Itk a od kv) ((kv.map (·.1)).map kD) :=
  ⟨⟨_, _, by
      have e : ((kv.map (·.1)).map kD).length = kv.length := by simp
      rw [e]; exact walk_keys (d := a) (o := od) (kvs := kv), fun g' H l s => s _ _ (l.F _ _ h), fun i x H1 H2 g' hi l s y => by
    obtain ⟨rfl, k, v, hk, rfl⟩ := y
    refine ⟨kD k, g', ?_, .refl _ _, rp_kD⟩
    rw [List.getElem?_map, List.getElem?_map, hk]; rfl⟩⟩
def iAny (f : M Dt) : M (List Dt) := mBind f fun d => mLift (itD d)
section
variable {X : Cx} {tg e : Expr} {f : M Dt}
theorem si_any (h : SE X e f) : SI X tg e (iAny f) :=
  pi_weak (pi_or (pi_or (pi_list h) (pi_or (pi_tup h) (pi_str h))) (pi_keys h)) fun σ H Q ⟨B, g, ρ, w, ds, ρ', w', R, e, k⟩ => by
    obtain ⟨d, ρ1, w1, e1, e2⟩ := mBind_some e
    obtain ⟨h5, rfl, rfl⟩ := mLift_some e2
    unfold itD at h5
    split at h5
    · cases h5
      exact .inl (.inl ⟨B, g, ρ, w, _, _, _, R, e1, fun v g1 H1 R1 l1 ⟨a, xs, ev, hx, rx⟩ => ⟨a, ev, ⟨xs, SqL.of (R1.sub _ _ hx)⟩, k _ g1 H1 R1 l1 (wk_list hx rx)⟩⟩)
    · cases h5
      exact .inl (.inr (.inl ⟨B, g, ρ, w, _, _, _, R, e1, fun v g1 H1 R1 l1 ⟨a, xs, ev, hx, rx⟩ => ⟨a, ev, ⟨xs, sqT_mono R1.sub hx⟩, k _ g1 H1 R1 l1 (wk_tup hx rx)⟩⟩))
    · cases h5
      exact .inl (.inl ⟨B, g, ρ, w, _, _, _, R, e1, fun v g1 H1 R1 l1 ⟨a, ev, hx⟩ => ⟨a, ev, ⟨_, sqL_mono R1.sub hx⟩, k _ g1 H1 R1 l1 (wk_rol hx)⟩⟩)
    · cases h5
      exact .inl (.inr (.inr ⟨B, g, ρ, w, _, _, _, R, e1, fun v g1 H1 R1 l1 ev => ⟨_, ev, k _ g1 H1 R1 l1 wk_str⟩⟩))
    · cases h5
      refine .inr ⟨B, g, ρ, w, _, _, _, R, e1, fun v g1 H1 R1 l1 ⟨a, kv, ev, ⟨od, hx⟩, hk, rx⟩ => ⟨a, od, ev, .inl ⟨kv, R1.sub _ _ hx, ?_⟩⟩⟩
      subst hk
      exact k _ g1 H1 R1 l1 (wk_keys hx)
    · cases h5
/-! ranges -/
def rgD (lo : Int) (n : Nat) : List Dt := (List.range n).map fun (i : Nat) => Dt.int (lo + (i : Int))
def rgDc (lo c : Int) (n : Nat) : List Dt := (List.range n).map fun (i : Nat) => Dt.int (lo + (i : Int) * c)
theorem wk_range {K : PySem.W.Frag} {g : Gh} {lo : Int} {n : Nat} : Wk K g (Itr lo n) (rgD lo n) :=
  ⟨⟨_, _, by
      have e : (rgD lo n).length = n := by unfold rgD; simp
      rw [e]; exact walk_range (lo := lo) (n := n), fun _ _ _ _ => trivial, fun i x H1 H2 g' hi l sb y => by
    obtain ⟨rfl, rfl⟩ := y
    have hi' : i < n := by unfold rgD at hi; simpa using hi
    refine ⟨.int (lo + (i : Int)), g', ?_, .refl _ _, rfl⟩
    unfold rgD
    rw [List.getElem?_map, List.getElem?_range hi']; rfl⟩⟩
theorem wk_rangeC {K : PySem.W.Frag} {g : Gh} {lo c : Int} {n : Nat} : Wk K g (Itc lo c n) (rgDc lo c n) :=
  ⟨⟨_, _, by
      have e : (rgDc lo c n).length = n := by unfold rgDc; simp
      rw [e]; exact walk_rangeC (lo := lo) (c := c) (n := n), fun _ _ _ _ => trivial, fun i x H1 H2 g' hi l sb y => by
    obtain ⟨rfl, rfl⟩ := y
    have hi' : i < n := by unfold rgDc at hi; simpa using hi
    refine ⟨.int (lo + (i : Int) * c), g', ?_, .refl _ _, rfl⟩
    unfold rgDc
    rw [List.getElem?_map, List.getElem?_range hi']; rfl⟩⟩
def in62 (i : Int) : Bool := decide (-(2 ^ 62) ≤ i) && decide (i < 2 ^ 62)
theorem in62_of {i : Int} (h : in62 i = true) : -(2 ^ 62) ≤ i ∧ i < 2 ^ 62 := by
  unfold in62 at h
  obtain ⟨h1, h2⟩ := Bool.and_eq_true_iff.mp h
  exact ⟨of_decide_eq_true h1, of_decide_eq_true h2⟩
def rg1 : List Dt → Option (List Dt)
  | [.int j] => if in62 j then some (rgD 0 j.toNat) else none
  | _ => none
def rg2 : List Dt → Option (List Dt)
  | [.int i, .int j] => if in62 i && in62 j then some (rgD i (j - i).toNat) else none
  | _ => none
def rg3 : List Dt → Option (List Dt)
  | [.int i, .int j, .int c] => if decide (c ≠ 0) && decide (c.natAbs < 1073741824) && Builtin.Range.small i j c && decide (0 ≤ Builtin.Range.rangeSize i j c) then some (rgDc i c (Builtin.Range.rangeSize i j c).toNat) else none
  | _ => none
def iRg (φ : List Dt → Option (List Dt)) (fa : M (List RV)) : M (List Dt) := mBind fa fun rs => mBind (mRds rs) fun ds => mLift (φ ds)
variable {a b c : Expr} {fa : M (List RV)} {p pos : Pos}
theorem si_range1 (hm : X.mg "range" = none) (ha : SAR X [a] fa) (hg : Gl X "range" := by rfl) (hs : starEach [a] X.env = [(false, eval a X.env)] := by rfl) : SI X tg (.Call (.Name "range" p) [a] [] pos) (iRg rg1 fa) :=
  pi_weak (pi_range1 hg hm ha hs) fun σ H Q ⟨B, g, ρ, w, ds, ρ', w', R, e, k⟩ => by
    obtain ⟨rs, ρ1, w1, e1, f1⟩ := mBind_some e
    obtain ⟨es, ρ2, w2, e2, f2⟩ := mBind_some f1
    obtain ⟨h5, e5, e6⟩ := mLift_some f2
    subst e5 e6
    refine ⟨B, g, ρ, w, rs, ρ1, w1, R, e1, fun vs g1 H1 R1 l1 q1 => ?_⟩
    obtain ⟨e5, e6, q⟩ := mRds_view R1 q1 e2
    subst e5 e6
    unfold rg1 at h5
    split at h5
    · obtain ⟨h1, h5⟩ := ite_some h5
      cases h5
      obtain ⟨v, rfl, ev⟩ := q.one
      cases ev
      exact ⟨_, rfl, (in62_of h1).1, (in62_of h1).2, k _ g1 H1 R1 l1 wk_range⟩
    · cases h5
theorem si_range2 (hm : X.mg "range" = none) (ha : SAR X [a, b] fa) (hg : Gl X "range" := by rfl) (hs : starEach [a, b] X.env = [(false, eval a X.env), (false, eval b X.env)] := by rfl) (hs2 : starEach [b] X.env = [(false, eval b X.env)] := by rfl) : SI X tg (.Call (.Name "range" p) [a, b] [] pos) (iRg rg2 fa) :=
  pi_weak (pi_range2 hg hm ha hs hs2) fun σ H Q ⟨B, g, ρ, w, ds, ρ', w', R, e, k⟩ => by
    obtain ⟨rs, ρ1, w1, e1, f1⟩ := mBind_some e
    obtain ⟨es, ρ2, w2, e2, f2⟩ := mBind_some f1
    obtain ⟨h5, e5, e6⟩ := mLift_some f2
    subst e5 e6
    refine ⟨B, g, ρ, w, rs, ρ1, w1, R, e1, fun vs g1 H1 R1 l1 q1 => ?_⟩
    obtain ⟨e5, e6, q⟩ := mRds_view R1 q1 e2
    subst e5 e6
    unfold rg2 at h5
    split at h5
    · obtain ⟨h1, h5⟩ := ite_some h5
      cases h5
      obtain ⟨v, u, rfl, ev, eu⟩ := q.two
      cases ev; cases eu
      obtain ⟨h2, h3⟩ := Bool.and_eq_true_iff.mp h1
      exact ⟨_, _, rfl, ⟨(in62_of h2).1, (in62_of h2).2, (in62_of h3).1, (in62_of h3).2⟩, k _ g1 H1 R1 l1 wk_range⟩
    · cases h5
theorem RvV.three {K : PySem.W.Frag} {g : Gh} {H : Hp} {d e f : Dt} {xs : List V} (h : RvV K g H [d, e, f] xs) : ∃ v u t, xs = [v, u, t] ∧ Vw K g H d v ∧ Vw K g H e u ∧ Vw K g H f t := by
  cases xs with
  | nil => exact h.elim
  | cons v vs => cases vs with
    | nil => exact h.2.elim
    | cons u us => cases us with
      | nil => exact h.2.2.elim
      | cons t ts => cases ts with
        | nil => exact ⟨v, u, t, rfl, h.1, h.2.1, h.2.2.1⟩
        | cons _ _ => exact h.2.2.2.elim
theorem si_range3 (hm : X.mg "range" = none) (ha : SAR X [a, b, c] fa) (h : ∀ (t : TA), PA X [a, b, c] t → PI X tg (.Call (.Name "range" p) [a, b, c] [] pos) (iRng3 t)) : SI X tg (.Call (.Name "range" p) [a, b, c] [] pos) (iRg rg3 fa) :=
  pi_weak (h _ ha) fun σ H Q ⟨B, g, ρ, w, ds, ρ', w', R, e, k⟩ => by
    obtain ⟨rs, ρ1, w1, e1, f1⟩ := mBind_some e
    obtain ⟨es, ρ2, w2, e2, f2⟩ := mBind_some f1
    obtain ⟨h5, e5, e6⟩ := mLift_some f2
    subst e5 e6
    refine ⟨B, g, ρ, w, rs, ρ1, w1, R, e1, fun vs g1 H1 R1 l1 q1 => ?_⟩
    obtain ⟨e5, e6, q⟩ := mRds_view R1 q1 e2
    subst e5 e6
    unfold rg3 at h5
    split at h5
    · obtain ⟨h1, h5⟩ := ite_some h5
      cases h5
      obtain ⟨v, u, t, rfl, ev, eu, et⟩ := q.three
      cases ev; cases eu; cases et
      obtain ⟨h0, h7⟩ := Bool.and_eq_true_iff.mp h1
      obtain ⟨h2, h3⟩ := Bool.and_eq_true_iff.mp h0
      obtain ⟨h4, h6⟩ := Bool.and_eq_true_iff.mp h2
      exact ⟨_, _, _, _, rfl, ⟨of_decide_eq_true h4, of_decide_eq_true h6, h3, (Int.toNat_of_nonneg (of_decide_eq_true h7)).symm⟩, k _ g1 H1 R1 l1 wk_rangeC⟩
    · cases h5
end

/-! ### for -/
def loopD (ft : FT) (fb : M Fl) : List Dt → M Fl
  | [] => mRet .nx
  | d :: ds => fun ρ w => match ft d ρ with
    | none => none
    | some ρ1 => match fb ρ1 w with
      | some (.nx, ρ2, w2) => loopD ft fb ds ρ2 w2
      | some (.ct, ρ2, w2) => loopD ft fb ds ρ2 w2
      | some (.bk, ρ2, w2) => some (.nx, ρ2, w2)
      | some (.rt v, ρ2, w2) => some (.rt v, ρ2, w2)
      | none => none
def fFor (ft : FT) (fi : M (List Dt)) (fb : M Fl) : M Fl := mBind fi fun ds => loopD ft fb ds
section
variable {X : Cx} {tg iter : Expr} {body : List Stmt} {g : TG} {ft : FT} {fi : M (List Dt)} {fb : M Fl} {ix : List Nat} {pos : Pos}
theorem ss_for (hx : X.xe = fun _ _ => False) (hi : SI X tg iter fi) (hg : PG X tg g) (hgo : TGok X.K g ft ix) (hb : SSs X body fb) (hc : X.calm = true := by rfl) (hs : ∀ x, foldedSetIterable iter X.env x = pure x := by intro _; rfl) : SS X (.For tg iter body [] pos) (fFor ft fi fb) :=
  ps_weak (ps_for (by rw [hx]; exact PassesOwn.never) hc hi hg hb hs) fun D σ H ⟨B, g0, ρ, w, r, ρ', w', R, e, q⟩ => by
    obtain ⟨ds, ρ1, w1, e1, e2⟩ := mBind_some e
    refine ⟨B, g0, ρ, w, ds, ρ1, w1, R, e1, fun J g1 H1 R1 l1 W => ?_⟩
    obtain ⟨G, Y, wk, hG, hY⟩ := W.is
    refine for_it wk (fun i σ' H' => ∃ g2 ρ2 w2, Rel X.K B g2 H' σ' ρ2 w2 ∧ Gle g1 g2 ∧ loopD ft fb (ds.drop i) ρ2 w2 = some (r, ρ', w')) ⟨g1, ρ1, w1, R1, .refl _, e2⟩ (fun i σ' H' _ ⟨g2, ρ2, w2, R2, l2, _⟩ => hG g2 H' l2 R2.sub) ?_ ?_
    · rintro i x σ2 H2 H3 hi' ⟨g2, ρ2, w2, R2, l2, e3⟩ y
      obtain ⟨d, g3, hd, G3, rp⟩ := hY i x H2 H3 g2 hi' l2 R2.sub y
      have hdr : ds.drop i = d :: ds.drop (i + 1) := by
        rw [List.drop_eq_getElem_cons hi']
        have := List.getElem?_eq_getElem hi'
        rw [this] at hd
        cases hd; rfl
      rw [hdr] at e3
      unfold loopD at e3
      split at e3
      · cases e3
      · rename_i ρ3 h3
        have R3 := R2.grow G3
        have l3 : Gle g1 g3 := l2.trans G3.le
        refine hgo B g3 H3 σ2 ρ2 w2 d x ρ3 _ R3 rp h3 fun σ4 R4 _ => ?_
        split at e3
        · rename_i ρ4 w4 e4
          exact ⟨B, g3, ρ3, w2, _, _, _, R4, e4, fun σ' g' H' R' l => ⟨g', ρ4, w4, R', l3.trans l, e3⟩⟩
        · rename_i ρ4 w4 e4
          exact ⟨B, g3, ρ3, w2, _, _, _, R4, e4, fun σ' g' H' R' l => ⟨g', ρ4, w4, R', l3.trans l, e3⟩⟩
        · rename_i ρ4 w4 e4
          cases e3
          exact ⟨B, g3, ρ3, w2, _, _, _, R4, e4, fun σ' g' H' R' l => q σ' g' H' R' (l1.trans (l3.trans l))⟩
        · rename_i v ρ4 w4 e4
          cases e3
          exact ⟨B, g3, ρ3, w2, _, _, _, R4, e4, fun v σ' g' H' R' l rp => q v σ' g' H' R' (l1.trans (l3.trans l)) rp⟩
        · cases e3
    · rintro σ2 H2 ⟨g2, ρ2, w2, R2, l2, e3⟩
      rw [List.drop_length] at e3
      cases e3
      exact q σ2 g2 H2 R2 (l1.trans l2)
/-! ### while -/
def whl (c : M Bool) (b : M Fl) : Nat → M Fl
  | 0 => mFail
  | n + 1 => fun ρ w => match c ρ w with
    | some (true, ρ1, w1) => match b ρ1 w1 with
      | some (.nx, ρ2, w2) => whl c b n ρ2 w2
      | some (.ct, ρ2, w2) => whl c b n ρ2 w2
      | some (.bk, ρ2, w2) => some (.nx, ρ2, w2)
      | some (.rt v, ρ2, w2) => some (.rt v, ρ2, w2)
      | none => none
    | some (false, ρ1, w1) => some (.nx, ρ1, w1)
    | none => none
def fuel : Nat := 1000000
def fWhile (c : M Bool) (b : M Fl) : M Fl := whl c b fuel
theorem ss_while {c : Expr} {fc : M Bool} (hx : X.xe = fun _ _ => False) (hc : ST X c fc) (hb : SSs X body fb) : SS X (.While c body [] pos) (fWhile fc fb) :=
  ps_weak (ps_while (by rw [hx]; exact PassesOwn.never) hc hb) fun D σ H ⟨B, g0, ρ, w, r, ρ', w', R, e, q⟩ => by
    refine ⟨fun m σ' H' => ∃ g2 ρ2 w2, Rel X.K B g2 H' σ' ρ2 w2 ∧ Gle g0 g2 ∧ whl fc fb m ρ2 w2 = some (r, ρ', w'), ⟨_, g0, ρ, w, R, .refl _, e⟩, ?_⟩
    rintro m σ2 H2 ⟨g2, ρ2, w2, R2, l2, e3⟩
    cases m with
    | zero => cases e3
    | succ m =>
      unfold whl at e3
      simp only at e3
      split at e3
      · rename_i ρ3 w3 e4
        refine ⟨B, g2, ρ2, w2, true, ρ3, w3, R2, e4, fun g3 H3 R3 l3 => ?_⟩
        refine iteT ⟨fun σ' H' => ∃ g4 ρ4 w4, Rel X.K B g4 H' σ' ρ4 w4 ∧ Gle g0 g4 ∧ whl fc fb m ρ4 w4 = some (r, ρ', w'), fun σ' H' h => ⟨m, Nat.lt_succ_self m, h⟩, ?_⟩
        split at e3
        · rename_i ρ4 w4 e5
          exact ⟨B, g3, ρ3, w3, _, _, _, R3, e5, fun σ' g' H' R' l => ⟨g', ρ4, w4, R', l2.trans (l3.trans l), e3⟩⟩
        · rename_i ρ4 w4 e5
          exact ⟨B, g3, ρ3, w3, _, _, _, R3, e5, fun σ' g' H' R' l => ⟨g', ρ4, w4, R', l2.trans (l3.trans l), e3⟩⟩
        · rename_i ρ4 w4 e5
          cases e3
          exact ⟨B, g3, ρ3, w3, _, _, _, R3, e5, fun σ' g' H' R' l => q σ' g' H' R' (l2.trans (l3.trans l))⟩
        · rename_i v ρ4 w4 e5
          cases e3
          exact ⟨B, g3, ρ3, w3, _, _, _, R3, e5, fun v σ' g' H' R' l rp => q v σ' g' H' R' (l2.trans (l3.trans l)) rp⟩
        · cases e3
      · rename_i ρ3 w3 e4
        cases e3
        refine ⟨B, g2, ρ2, w2, false, _, _, R2, e4, fun g3 H3 R3 l3 => ?_⟩
        exact iteF (q σ2 g3 H3 R3 (l2.trans l3))
      · cases e3
end
end Lw

end
section
set_option Elab.async false
set_option linter.all false
set_option maxRecDepth 100000
set_option maxHeartbeats 2000000
namespace Lw
open PySem PySem.Spec L2

/-! ### lists of one's own -/
section
variable {K : PySem.W.Frag} {B : Bs} {g g' : Gh} {H H' : Hp} {σ : St} {ρ : En} {w : Wd}
theorem owAt_up {i j : Nat} {s : Sl} (h : owAt (ρ.set i (some s)) j) (n : j ≠ i) : owAt ρ j := by
  obtain ⟨t, e, o⟩ := h
  rw [List.getElem?_set_ne (Ne.symm n)] at e
  exact ⟨t, e, o⟩
theorem set_get {α : Type} {l : List α} {i : Nat} {x y : α} (e : (l.set i x)[i]? = some y) : i < l.length ∧ y = x := by
  rw [List.getElem?_set] at e
  split at e
  · split at e
    · exact ⟨by assumption, (Option.some.inj e).symm⟩
    · cases e
  · rename_i n; exact absurd rfl n
theorem Rel.owned {i : Nat} {s : Sl} (R : Rel K B g H σ ρ w) (e : ρ[i]? = some (some s)) (o : s.isOw = true) : σ[i]? = some (some (.ref (g.ad i))) ∧ OwnA B g (g.ad i) ∧ ∃ u, H (g.ad i) = some u := by
  obtain ⟨v, ev, q⟩ := R.slots i s e
  obtain ⟨h1, h2, h3⟩ := q.own o
  exact ⟨by rw [ev, h1], h2, h3⟩
/-- an object of one's own is changed in its place -/
theorem Rel.mut {i : Nat} {s t : Sl} {u : HO} (R : Rel K B g H σ ρ w) (e : ρ[i]? = some (some s)) (o : s.isOw = true) (ht : t.isOw = true) (hq : SlOk K B g (upd H (g.ad i) u) i (some (.ref (g.ad i))) t) :
    Rel K B g (upd H (g.ad i) u) σ (ρ.set i (some t)) w := by
  obtain ⟨eσ, own, u0, hu⟩ := R.owned e o
  have some' : ∀ a, H a ≠ none → upd H (g.ad i) u a ≠ none := fun a h => by
    by_cases z : a = g.ad i
    · subst z; rw [upd_same]; simp
    · rw [upd_ne z]; exact h
  refine ⟨fun a v h => ?_, ?_, R.srcF, fun a v h => ?_, fun a h => some' a (R.old a h), R.newF, R.le, R.srcN, fun a h => ?_, by simp [R.len], fun j q ej => ?_, fun j k n a b => ?_⟩
  · rw [upd_ne fun z => by rw [z, own.F] at h; cases h]; exact R.sub _ _ h
  · cases w with
    | none => exact R.src
    | some st =>
      obtain ⟨a, c, h1, h2, h3, h4, h5, h6⟩ := R.src
      refine ⟨a, c, h1, h2, ?_, ?_, h5, h6⟩
      · rw [upd_ne fun z => own.src ⟨a, c, h1, .inl z.symm⟩]; exact h3
      · rw [upd_ne fun z => own.src ⟨a, c, h1, .inr z.symm⟩]; exact h4
  · rw [upd_ne fun z => by rw [z, own.Fr] at h; cases h]; exact R.keep _ _ h
  · obtain ⟨h1, h2, h3⟩ := R.hid a h
    exact ⟨h1, some' a h2, h3⟩
  · by_cases z : j = i
    · subst z
      obtain ⟨_, hq'⟩ := set_get ej
      cases hq'
      exact ⟨_, eσ, hq⟩
    · rw [List.getElem?_set_ne (Ne.symm z)] at ej
      obtain ⟨v, ev, qv⟩ := R.slots j q ej
      refine ⟨v, ev, ?_⟩
      cases q with
      | fr d => exact qv
      | owL ds =>
        obtain ⟨h1, h2, xs, hx, r⟩ := qv
        exact ⟨h1, h2, xs, by rw [upd_ne (R.sep j i z ⟨_, ej, rfl⟩ ⟨_, e, o⟩)]; exact hx, r⟩
      | owK ks ds =>
        obtain ⟨h1, h2, xs, hx, r⟩ := qv
        exact ⟨h1, h2, xs, by rw [upd_ne (R.sep j i z ⟨_, ej, rfl⟩ ⟨_, e, o⟩)]; exact hx, r⟩
      | owX ks ds =>
        obtain ⟨h1, h2, xs, hx, r⟩ := qv
        exact ⟨h1, h2, xs, by rw [upd_ne (R.sep j i z ⟨_, ej, rfl⟩ ⟨_, e, o⟩)]; exact hx, r⟩
  · have low : ∀ j, owAt (ρ.set i (some t)) j → owAt ρ j := fun j h => by
      by_cases z : j = i
      · subst z; exact ⟨s, e, o⟩
      · exact owAt_up h z
    exact R.sep j k n (low j a) (low k b)
theorem OwnA.ad {a : Addr} {f : Nat → Addr} (h : OwnA B g a) : OwnA B { g with ad := f } a := ⟨h.F, h.Fr, h.H0, h.hid, h.src⟩
theorem Gle.ad {g : Gh} {f : Nat → Addr} : Gle g { g with ad := f } := ⟨fun _ _ q => q, .inr rfl⟩
theorem rp_ad {K : PySem.W.Frag} {g : Gh} {f : Nat → Addr} {d : Dt} {v : V} (h : Rp K g d v) : Rp K { g with ad := f } d v := Rp.mono Gle.ad h
/-- a new object comes to a slot as its own -/
theorem Rel.setOw {i : Nat} {a : Addr} {t : Sl} (R : Rel K B g H σ ρ w) (own : OwnA B g a) (ne : ∀ j, owAt ρ j → g.ad j ≠ a)
    (hq : SlOk K B { g with ad := fun j => if j = i then a else g.ad j } H i (some (.ref a)) t) :
    Rel K B { g with ad := fun j => if j = i then a else g.ad j } H (σ.set i (some (.ref a))) (ρ.set i (some t)) w := by
  refine ⟨R.sub, ?_, R.srcF, R.keep, R.old, R.newF, ⟨R.le.F, R.le.S⟩, R.srcN, R.hid, by simp [R.len], fun j q ej => ?_, fun j k n hj hk => ?_⟩
  · cases w with
    | none => exact R.src
    | some st => exact R.src
  · by_cases z : j = i
    · subst z
      obtain ⟨hl, hq'⟩ := set_get ej
      cases hq'
      exact ⟨_, by rw [List.getElem?_set_self (by rw [R.len]; exact hl)], hq⟩
    · rw [List.getElem?_set_ne (Ne.symm z)] at ej
      obtain ⟨v, ev, qv⟩ := R.slots j q ej
      refine ⟨v, by rw [List.getElem?_set_ne (Ne.symm z)]; exact ev, ?_⟩
      have eq : (fun j => if j = i then a else g.ad j) j = g.ad j := if_neg z
      cases q with
      | fr d => obtain ⟨u, eu, r⟩ := qv; exact ⟨u, eu, rp_ad r⟩
      | owL ds =>
        obtain ⟨h1, h2, xs, hx, r⟩ := qv
        exact ⟨by show v = some (.ref ((fun j => if j = i then a else g.ad j) j)); rw [eq]; exact h1, by show OwnA B _ ((fun j => if j = i then a else g.ad j) j); rw [eq]; exact h2.ad, xs, by show H ((fun j => if j = i then a else g.ad j) j) = _; rw [eq]; exact hx, RpL.mono Gle.ad r⟩
      | owK ks ds =>
        obtain ⟨h1, h2, xs, hx, k, r⟩ := qv
        exact ⟨by show v = some (.ref ((fun j => if j = i then a else g.ad j) j)); rw [eq]; exact h1, by show OwnA B _ ((fun j => if j = i then a else g.ad j) j); rw [eq]; exact h2.ad, xs, by show H ((fun j => if j = i then a else g.ad j) j) = _; rw [eq]; exact hx, k, RpL.mono Gle.ad r⟩
      | owX ks ds =>
        obtain ⟨h1, h2, xs, hx, k, r⟩ := qv
        exact ⟨by show v = some (.ref ((fun j => if j = i then a else g.ad j) j)); rw [eq]; exact h1, by show OwnA B _ ((fun j => if j = i then a else g.ad j) j); rw [eq]; exact h2.ad, xs, by show H ((fun j => if j = i then a else g.ad j) j) = _; rw [eq]; exact hx, k, RpL.mono Gle.ad r⟩
  · show (if j = i then a else g.ad j) ≠ (if k = i then a else g.ad k)
    by_cases z : j = i
    · rw [if_pos z, if_neg fun y => n (z.trans y.symm)]
      exact (ne k (owAt_up hk fun y => n (z.trans y.symm))).symm
    · rw [if_neg z]
      by_cases y : k = i
      · rw [if_pos y]; exact ne j (owAt_up hj z)
      · rw [if_neg y]; exact R.sep j k n (owAt_up hj z) (owAt_up hk y)
theorem Rel.newOwn {p : Addr} (R : Rel K B g H σ ρ w) (hp : H p = none) : OwnA B g p ∧ ∀ j, owAt ρ j → g.ad j ≠ p := by
  refine ⟨⟨?_, ?_, ?_, fun q => (R.hid p q).2.1 hp, fun q => ?_⟩, fun j ⟨s, e, o⟩ z => ?_⟩
  · cases e : g.F p with
    | none => rfl
    | some o => rw [R.sub _ _ e] at hp; cases hp
  · cases e : B.Fr p with
    | none => rfl
    | some o => rw [R.keep _ _ e] at hp; cases hp
  · cases e : B.H0 p with
    | none => rfl
    | some o => exact absurd hp (R.old p (by rw [e]; simp))
  · obtain ⟨⟨o, ho⟩, _⟩ := R.src.some_of q
    rw [ho] at hp; cases hp
  · obtain ⟨_, _, u, hu⟩ := R.owned e o
    rw [z, hp] at hu; cases hu
/-- a new object that no one knows but its place -/
theorem Rel.lay {p : Addr} {o : HO} (R : Rel K B g H σ ρ w) (hp : H p = none) : Rel K B g (upd H p o) σ ρ w :=
  R.grow ⟨rfl, rfl, fun a u h => by rw [upd_ne (ne_of_none h hp)]; exact h, fun _ _ h => h, fun _ _ h => .inl h⟩
end
def tN (K : PySem.W.Frag) (f : M (List Dt)) : TE := fun σ H Q => ∃ B g ρ w ds ρ' w', Rel K B g H σ ρ w ∧ f ρ w = some (ds, ρ', w') ∧
  ∀ a xs g' H', Rel K B g' H' σ ρ' w' → Gle g g' → H' a = some (.lst xs) → RpL K g' ds xs → OwnA B g' a → (∀ j, owAt ρ' j → g'.ad j ≠ a) → Q (.ref a) H'
abbrev SN (X : Cx) (e : Expr) (f : M (List Dt)) : Prop := PE X e (tN X.K f)
def nLst (f : M (List Dt)) : M (List Dt) := mBind f fun ds => if inLine ds.length then mRet ds else mFail
def setOw (i : Nat) (ds : List Dt) : M Fl := fun ρ w => some (.nx, ρ.set i (some (.owL ds)), w)
def fSetN (i : Nat) (f : M (List Dt)) : M Fl := mBind f fun ds => setOw i ds
section
variable {X : Cx} {pos : Pos} {e : Expr} {es : List Expr}
theorem sn_lst {f : M (List Dt)} (h : SA X es f) : SN X (.List es pos) (nLst f) :=
  pe_weak (pe_lst h) fun σ H Q ⟨B, g, ρ, w, d, ρ', w', R, e, k⟩ => by
    obtain ⟨ds, ρ1, w1, e1, e2⟩ := mBind_some e
    obtain ⟨hz, e2⟩ := ite_fail e2
    cases e2
    refine ⟨B, g, ρ, w, _, _, _, R, e1, fun vs g1 H1 R1 l1 r1 => ⟨by rw [← r1.length]; exact inLine_of hz, fun p hp => ?_⟩⟩
    obtain ⟨o, ne⟩ := R1.newOwn hp
    exact k p vs g1 _ (R1.lay hp) l1 upd_same r1 o ne
/-- a value that is a new list by its making is known as a value, too -/
theorem se_of_n {f : M (List Dt)} (h : SN X e f) : SE X e (mBind f fun ds => mRet (.lst ds)) :=
  pe_weak h fun σ H Q ⟨B, g, ρ, w, d, ρ', w', R, e, k⟩ => by
    obtain ⟨ds, ρ1, w1, e1, e2⟩ := mBind_some e
    cases e2
    refine ⟨B, g, ρ, w, ds, _, _, R, e1, fun a xs g1 H1 R1 l1 hx rx o ne => ?_⟩
    have l2 := Gle.put (g := g1) (p := a) (o := .lst xs) o.F
    refine k _ (g1.put a (.lst xs)) H1 (R1.know o hx rfl (fun i s es => ?_) R1.sep) (l1.trans l2) ⟨a, xs, rfl, put_at, rx.mono l2⟩
    obtain ⟨v, ev, q⟩ := R1.slots i s es
    exact ⟨v, ev, q.put o.F fun h => ne i ⟨s, es, h⟩⟩
theorem ss_setN (i : Nat) {x : Str} {pos' : Pos} {f : M (List Dt)} (he : SN X e f) (hN : X.N.Nodup) (hi : X.N[i]? = some x := by rfl) (hx : Loc X.env.scope x := by first | exact Or.inl rfl | exact Or.inr rfl) (hs : swapsWith e (some (.Name x pos')) pos.line X.env = pure false := by rfl)
    (hf : X.fn x = true ∨ X.env.scope.names.lookup x = some .local := by first | exact .inl rfl | exact .inr rfl) : SS X (.Assign [.Name x pos'] e pos) (fSetN i f) :=
  ps_weak (ps_set (i := i) hN hi hx he hs hf) fun D σ H ⟨B, g, ρ, w, r, ρ', w', R, e, q⟩ => by
    obtain ⟨ds, ρ1, w1, e1, e2⟩ := mBind_some e
    cases e2
    refine ⟨B, g, ρ, w, ds, _, _, R, e1, fun a xs g' H' R' l hx rx o ne => ?_⟩
    refine q _ { g' with ad := fun j => if j = i then a else g'.ad j } H' (R'.setOw o ne ⟨?_, ?_, xs, ?_, RpL.mono Gle.ad rx⟩) ⟨l.F, l.S⟩
    · show some (V.ref a) = some (V.ref (if i = i then a else g'.ad i)); rw [if_pos rfl]
    · show OwnA B _ (if i = i then a else g'.ad i); rw [if_pos rfl]; exact o.ad
    · show H' (if i = i then a else g'.ad i) = _; rw [if_pos rfl]; exact hx
/-- a, b = [..], y: the first is a list of one's own -/
def fParN (i j : Nat) (f : M (List Dt)) (k : M Dt) : M Fl := mBind f fun ds => mBind (fun ρ w => k (ρ.set i (some (.owL ds))) w) fun d => setFr j d
/-! changing -/
def isOwL (i : Nat) : M Unit := fun ρ w => match ρ[i]? with
  | some (some (.owL _)) => some ((), ρ, w)
  | _ => none
def mApp (i : Nat) (d : Dt) : M Dt := fun ρ w => match ρ[i]? with
  | some (some (.owL ds)) => if decide (ds.length < sizeLine) then some (.non, ρ.set i (some (.owL (ds ++ [d]))), w) else none
  | _ => none
def fApp (i : Nat) (f : M Dt) : M Dt := mBind (isOwL i) fun _ => mBind f fun d => mApp i d
def fPop (i : Nat) : M Dt := fun ρ w => match ρ[i]? with
  | some (some (.owL ds)) => match ds[ds.length - 1]? with
    | some d => some (d, ρ.set i (some (.owL ds.dropLast)), w)
    | none => none
  | _ => none
theorem isOwL_some {i : Nat} {ρ ρ' : En} {w w' : Wd} {u : Unit} (h : isOwL i ρ w = some (u, ρ', w')) : ρ' = ρ ∧ w' = w ∧ ∃ ds, ρ[i]? = some (some (.owL ds)) := by
  unfold isOwL at h
  split at h
  · rename_i ds e; cases h; exact ⟨rfl, rfl, ds, e⟩
  · cases h
theorem se_app (i : Nat) {x : Str} {px ap : Pos} {f : M Dt} (h : SE X e f) (hN : X.N[i]? = some x := by rfl) (hv : Vis X.env.scope x := by first | exact Or.inl rfl | exact Or.inr (Or.inl rfl) | exact Or.inr (Or.inr rfl)) (hd : (x == ("__debug__" : Str)) = false := by decide)
    (hcd : (x == ("__classdict__" : Str)) = false := by decide) (hst : starEach [e] X.env = (false, eval e X.env) :: starEach [] X.env := by rfl) (hm : ∀ {t : TA}, PA X [e] t → PE X (.Call (.Attribute (.Name x px) "append" ap) [e] [] pos) (tBM X.K "list" rAppend (tVar i) t) := by intro t ht; exact pe_bm PySem.F.plainAttrs_list PySem.F.slot_list_append PySem.F.type_list_append mt_append (pv _) ht) :
    SE X (.Call (.Attribute (.Name x px) "append" ap) [e] [] pos) (fApp i f) :=
  pe_weak (hm (sa_cons h sa_nil hst)) fun σ H Q ⟨B, g, ρ, w, d, ρ', w', R, e, k⟩ => by
    obtain ⟨u, ρ1, w1, e1, e2⟩ := mBind_some e
    obtain ⟨rfl, rfl, ds, hds⟩ := isOwL_some e1
    obtain ⟨y, ρ2, w2, e3, e4⟩ := mBind_some e2
    obtain ⟨hσ, own, u0, hu⟩ := R.owned hds rfl
    obtain ⟨v, ev, q⟩ := R.slots i _ hds
    obtain ⟨_, _, xs, hx, rx⟩ := q
    refine ⟨_, hσ, .inl ⟨rfl, _, SqL.of hx⟩, ?_⟩
    refine ⟨B, g, _, _, [y], ρ2, w2, R, by unfold aCons; unfold mBind; rw [e3]; rfl, fun vs g2 H2 R2 l2 r2 => ?_⟩
    unfold mApp at e4
    split at e4
    · rename_i ds2 h2
      obtain ⟨hlt, e4⟩ := ite_some e4
      cases e4
      obtain ⟨v1, rfl, r1⟩ : ∃ v1, vs = [v1] ∧ Rp X.K g2 y v1 := by
        cases vs with
        | nil => exact r2.elim
        | cons v1 vs => cases vs with
          | nil => exact ⟨v1, rfl, r2.1⟩
          | cons _ _ => exact r2.2.elim
      obtain ⟨hσ2, own2, _⟩ := R2.owned h2 rfl
      obtain ⟨v2, ev2, q2⟩ := R2.slots i _ h2
      obtain ⟨_, _, xs2, hx2, rx2⟩ := q2
      have ea : g.ad i = g2.ad i := by
        rw [hσ] at hσ2; injection hσ2 with z; injection z with z; injection z
      refine ⟨g.ad i, xs2, v1, rfl, rfl, by rw [ea]; exact hx2, by rw [← rx2.length]; exact of_decide_eq_true hlt, ?_⟩
      rw [ea]
      exact k _ g2 _ (R2.mut h2 rfl rfl ⟨rfl, own2, _, upd_same, rx2.append ⟨r1, trivial⟩⟩) l2 rfl
    · cases e4
end
end Lw

end
section
set_option Elab.async false
set_option linter.all false
set_option maxRecDepth 100000
set_option maxHeartbeats 2000000
namespace Lw
open PySem PySem.Spec L2

section
variable {X : Cx} {pos : Pos} {e : Expr} {es : List Expr}
theorem se_pop (i : Nat) {x : Str} {px ap : Pos} (hN : X.N[i]? = some x := by rfl) (hm : PE X (.Call (.Attribute (.Name x px) "pop" ap) [] [] pos) (tBM0 X.K "list" rPop (tVar i)) := by exact pe_bm0 PySem.F.plainAttrs_list PySem.F.slot_list_pop PySem.F.type_list_pop mt_pop (pv _)) :
    SE X (.Call (.Attribute (.Name x px) "pop" ap) [] [] pos) (fPop i) :=
  pe_weak hm fun σ H Q ⟨B, g, ρ, w, d, ρ', w', R, e, k⟩ => by
    unfold fPop at e
    split at e
    · rename_i ds hds
      split at e
      · rename_i y hy
        cases e
        obtain ⟨hσ, own, _⟩ := R.owned hds rfl
        obtain ⟨v, ev, q⟩ := R.slots i _ hds
        obtain ⟨_, _, xs, hx, rx⟩ := q
        obtain ⟨v1, hv1, r1⟩ := rx.get hy
        refine ⟨_, hσ, .inl ⟨rfl, _, SqL.of hx⟩, _, xs, v1, rfl, rfl, hx, by rw [← rx.length]; exact hv1, ?_⟩
        exact k _ g _ (R.mut hds rfl rfl ⟨rfl, own, _, upd_same, rx.dropLast⟩) (.refl g) r1
      · cases e
    · cases e
/-- x[i] = e, a list of one's own -/
def mSetIx (i : Nat) (d : Dt) (r : RV) : M Fl := fun ρ w => match ρ[i]? with
  | some (some (.owL ds)) => match rd r ρ with
    | some (.int n) => match ixN ds.length n with
      | some j => some (.nx, ρ.set i (some (.owL (ds.set j d))), w)
      | none => none
    | _ => none
  | _ => none
def fSetIx (i : Nat) (fi : M RV) (fe : M Dt) : M Fl := mBind fe fun d => mBind (isOwL i) fun _ => mBind fi fun r => mSetIx i d r
theorem ss_setIx (i : Nat) {x : Str} {px sp : Pos} {ix : Expr} {fi : M RV} {fe : M Dt} (he : SE X e fe) (hi : SR X ix fi) (hN : X.N[i]? = some x := by rfl)
    (hm : ∀ {te ti : TE}, PE X e te → PE X ix ti → PS X (.Assign [.Subscript (.Name x px) ix sp] e pos) (tAsg te (gSub (tVar i) ti rSetL)) := by intro te ti h1 h2; exact ps_asg h1 (pg_sub (pv _) h2 set_list)) :
    SS X (.Assign [.Subscript (.Name x px) ix sp] e pos) (fSetIx i fi fe) :=
  ps_weak (hm he hi) fun D σ H ⟨B, g, ρ, w, r, ρ', w', R, e, q⟩ => by
    obtain ⟨d, ρ1, w1, e1, f1⟩ := mBind_some e
    obtain ⟨u, ρ2, w2, e2, f2⟩ := mBind_some f1
    obtain ⟨rfl, rfl, ds0, hds0⟩ := isOwL_some e2
    obtain ⟨rv, ρ3, w3, e3, f3⟩ := mBind_some f2
    refine ⟨B, g, ρ, w, d, _, _, R, e1, fun v g1 H1 R1 l1 r1 => ?_⟩
    obtain ⟨hσ, own, _⟩ := R1.owned hds0 rfl
    refine ⟨_, hσ, B, g1, _, _, rv, ρ3, w3, R1, e3, fun iv g2 H2 R2 l2 q2 => ?_⟩
    unfold mSetIx at f3
    split at f3
    · rename_i ds hds
      split at f3
      · rename_i n hn
        split at f3
        · rename_i j hj
          cases f3
          have vi := R2.view q2 hn
          cases vi
          obtain ⟨hσ2, own2, _⟩ := R2.owned hds rfl
          obtain ⟨v2, ev2, q2'⟩ := R2.slots i _ hds
          obtain ⟨_, _, xs, hx, rx⟩ := q2'
          have ea : g1.ad i = g2.ad i := by
            rw [hσ] at hσ2; injection hσ2 with z; injection z with z; injection z
          refine ⟨g1.ad i, xs, n, j, rfl, rfl, by rw [ea]; exact hx, by rw [← rx.length]; exact hj, ?_⟩
          rw [ea]
          exact q σ g2 _ (R2.mut hds rfl rfl ⟨rfl, own2, _, upd_same, rx.set j (r1.mono l2)⟩) (l1.trans l2)
        · cases f3
      · cases f3
    · cases f3
end

/-! ### comprehensions -/
def wipeE (ρ : En) : List Nat → En
  | [] => ρ
  | v :: vs => (wipeE ρ vs).set v none
def loopC (ft : FT) (fc : M Bool) (fe : M Dt) (vs : List Nat) : List Dt → List Dt → M (List Dt)
  | [], acc => mRet acc
  | d :: ds, acc => fun ρ w => match ft d (wipeE ρ vs) with
    | none => none
    | some ρ1 => match fc ρ1 w with
      | some (true, ρ2, w2) => match fe ρ2 w2 with
        | some (y, ρ3, w3) => if decide (acc.length < sizeLine) then loopC ft fc fe vs ds (acc ++ [y]) ρ3 w3 else none
        | none => none
      | some (false, ρ2, w2) => loopC ft fc fe vs ds acc ρ2 w2
      | none => none
def nLc (ft : FT) (fi : M (List Dt)) (fc : M Bool) (fe : M Dt) (vs : List Nat) : M (List Dt) := mBind fi fun ds => mBind (loopC ft fc fe vs ds []) fun ys ρ w => some (ys, wipeE ρ vs, w)
abbrev SPT (X : Cx) (ifs : List Expr) (f : M Bool) : Prop := PTs X ifs (tT X.K f)
section
variable {K : PySem.W.Frag} {B : Bs} {g g' : Gh} {H H' : Hp} {σ : St} {ρ : En} {w : Wd}
theorem wipeE_length : ∀ (vs : List Nat) (ρ : En), (wipeE ρ vs).length = ρ.length
  | [], _ => rfl
  | v :: vs, ρ => by unfold wipeE; rw [List.length_set, wipeE_length vs]
theorem wipeE_get : ∀ {vs : List Nat} {ρ : En} {i : Nat} {s : Sl}, (wipeE ρ vs)[i]? = some (some s) → ρ[i]? = some (some s) ∧ i ∉ vs
  | [], _, _, _, h => ⟨h, by simp⟩
  | v :: vs, ρ, i, s, h => by
    unfold wipeE at h
    by_cases z : i = v
    · subst z
      obtain ⟨_, q⟩ := set_get h
      cases q
    · rw [List.getElem?_set_ne (Ne.symm z)] at h
      obtain ⟨h1, h2⟩ := wipeE_get (vs := vs) h
      exact ⟨h1, by simp [z, h2]⟩
theorem owAt_wipe {vs : List Nat} {i : Nat} (h : owAt (wipeE ρ vs) i) : owAt ρ i := by
  obtain ⟨s, e, o⟩ := h
  exact ⟨s, (wipeE_get e).1, o⟩
theorem Rel.wipe (vs : List Nat) (R : Rel K B g H σ ρ w) : Rel K B g H (L2.wipe σ vs) (wipeE ρ vs) w :=
  ⟨R.sub, R.src, R.srcF, R.keep, R.old, R.newF, R.le, R.srcN, R.hid, by rw [wipe_length, wipeE_length, R.len], fun i s e => by
    obtain ⟨h1, h2⟩ := wipeE_get e
    obtain ⟨o, eo, q⟩ := R.slots i s h1
    exact ⟨o, by rw [wipe_out h2]; exact eo, q⟩, fun i j n a b => R.sep i j n (owAt_wipe a) (owAt_wipe b)⟩
/-- back from the wiped slots -/
theorem Rel.unwipe (vs : List Nat) (R : Rel K B g H (L2.wipe σ vs) ρ w) : Rel K B g H σ (wipeE ρ vs) w :=
  ⟨R.sub, R.src, R.srcF, R.keep, R.old, R.newF, R.le, R.srcN, R.hid, by rw [wipeE_length, ← R.len, wipe_length], fun i s e => by
    obtain ⟨h1, h2⟩ := wipeE_get e
    obtain ⟨o, eo, q⟩ := R.slots i s h1
    exact ⟨o, by rw [wipe_out h2] at eo; exact eo, q⟩, fun i j n a b => R.sep i j n (owAt_wipe a) (owAt_wipe b)⟩
def Bs.pin (B : Bs) (p : Addr) (o : HO) : Bs := { B with Fr := upd B.Fr p o, hid := fun a => B.hid a ∨ a = p }
theorem OwnA.pin {a p : Addr} {o : HO} (h : OwnA B g a) (n : a ≠ p) : OwnA (B.pin p o) g a :=
  ⟨h.F, by show upd B.Fr p o a = none; rw [upd_ne n]; exact h.Fr, h.H0, fun q => q.elim h.hid n, h.src⟩
theorem OwnA.unpin {a p : Addr} {o : HO} (h : OwnA (B.pin p o) g a) : OwnA B g a ∧ a ≠ p := by
  have n : a ≠ p := fun z => h.hid (.inr z)
  refine ⟨⟨h.F, ?_, h.H0, fun q => h.hid (.inl q), h.src⟩, n⟩
  have := h.Fr
  have this : upd B.Fr p o a = none := this
  rw [upd_ne n] at this; exact this
theorem SlOk.rb {B' : Bs} {i : Nat} {v : Option V} {s : Sl} (h : SlOk K B g H i v s) (k : OwnA B g (g.ad i) → OwnA B' g (g.ad i) ∧ H' (g.ad i) = H (g.ad i)) : SlOk K B' g H' i v s := by
  cases s with
  | fr d => exact h
  | owL ds => obtain ⟨h1, h2, xs, hx, r⟩ := h; obtain ⟨k1, k2⟩ := k h2; exact ⟨h1, k1, xs, by rw [k2]; exact hx, r⟩
  | owK ks ds => obtain ⟨h1, h2, xs, hx, r⟩ := h; obtain ⟨k1, k2⟩ := k h2; exact ⟨h1, k1, xs, by rw [k2]; exact hx, r⟩
  | owX ks ds => obtain ⟨h1, h2, xs, hx, r⟩ := h; obtain ⟨k1, k2⟩ := k h2; exact ⟨h1, k1, xs, by rw [k2]; exact hx, r⟩
/-- a place of this work alone: it is kept by all that comes -/
theorem Rel.pin {p : Addr} {o : HO} (R : Rel K B g H σ ρ w) (hp : H p = some o) (own : OwnA B g p) (ne : ∀ j, owAt ρ j → g.ad j ≠ p) : Rel K (B.pin p o) g H σ ρ w := by
  refine ⟨R.sub, R.src, fun a q => ?_, fun a u h => ?_, R.old, R.newF, R.le, R.srcN, fun a q => ?_, R.len, fun i s e => ?_, R.sep⟩
  · show upd B.Fr p o a = none
    rw [upd_ne fun z => own.src (by rw [← z]; exact q)]; exact R.srcF a q
  · have h' : upd B.Fr p o a = some u := h
    by_cases z : a = p
    · subst z; rw [upd_same] at h'; cases h'; exact hp
    · rw [upd_ne z] at h'; exact R.keep _ _ h'
  · rcases q with q | q
    · exact R.hid a q
    · exact ⟨q ▸ own.F, by rw [q, hp]; simp, q ▸ own.src⟩
  · obtain ⟨v, ev, q⟩ := R.slots i s e
    refine ⟨v, ev, ?_⟩
    cases s with
    | fr d => exact q
    | owL ds => exact q.rb fun h => ⟨h.pin (ne i ⟨_, e, rfl⟩), rfl⟩
    | owK ks ds => exact q.rb fun h => ⟨h.pin (ne i ⟨_, e, rfl⟩), rfl⟩
    | owX ks ds => exact q.rb fun h => ⟨h.pin (ne i ⟨_, e, rfl⟩), rfl⟩
/-- .. and is written by this work -/
theorem Rel.repin {p : Addr} {o u : HO} (R : Rel K (B.pin p o) g H σ ρ w) : Rel K (B.pin p u) g (upd H p u) σ ρ w := by
  obtain ⟨hF, hH, hS⟩ := R.hid p (.inr rfl)
  have some' : ∀ a, H a ≠ none → upd H p u a ≠ none := fun a h => by
    by_cases z : a = p
    · subst z; rw [upd_same]; simp
    · rw [upd_ne z]; exact h
  refine ⟨fun a v h => ?_, ?_, fun a q => ?_, fun a v h => ?_, fun a h => some' a (R.old a h), R.newF, R.le, R.srcN, fun a q => ?_, R.len, fun i s e => ?_, R.sep⟩
  · rw [upd_ne fun z => by rw [z, hF] at h; cases h]; exact R.sub _ _ h
  · cases w with
    | none => exact R.src
    | some st =>
      obtain ⟨a, c, h1, h2, h3, h4, h5, h6⟩ := R.src
      refine ⟨a, c, h1, h2, ?_, ?_, h5, h6⟩
      · rw [upd_ne fun z => hS ⟨a, c, h1, .inl z.symm⟩]; exact h3
      · rw [upd_ne fun z => hS ⟨a, c, h1, .inr z.symm⟩]; exact h4
  · have n : a ≠ p := fun z => hS (z ▸ q)
    have h := R.srcF a q
    have h : upd B.Fr p o a = none := h
    show upd B.Fr p u a = none
    rw [upd_ne n] at h ⊢; exact h
  · have h' : upd B.Fr p u a = some v := h
    by_cases z : a = p
    · subst z; rw [upd_same] at h' ⊢; exact h'
    · rw [upd_ne z] at h' ⊢
      exact R.keep a v (by show upd B.Fr p o a = some v; rw [upd_ne z]; exact h')
  · obtain ⟨h1, h2, h3⟩ := R.hid a q
    exact ⟨h1, some' a h2, h3⟩
  · obtain ⟨v, ev, q⟩ := R.slots i s e
    refine ⟨v, ev, q.rb fun h => ?_⟩
    obtain ⟨h1, n⟩ := h.unpin
    exact ⟨h1.pin n, upd_ne n⟩
theorem Rel.unpin {p : Addr} {o : HO} (R : Rel K (B.pin p o) g H σ ρ w) (hF : B.Fr p = none) : Rel K B g H σ ρ w := by
  refine ⟨R.sub, R.src, fun a q => ?_, fun a u h => ?_, R.old, R.newF, R.le, R.srcN, fun a q => R.hid a (.inl q), R.len, fun i s e => ?_, R.sep⟩
  · have h := R.srcF a q
    have h : upd B.Fr p o a = none := h
    by_cases z : a = p
    · subst z; rw [upd_same] at h; cases h
    · rw [upd_ne z] at h; exact h
  · refine R.keep a u ?_
    show upd B.Fr p o a = some u
    rw [upd_ne fun z => by rw [z, hF] at h; cases h]; exact h
  · obtain ⟨v, ev, q⟩ := R.slots i s e
    exact ⟨v, ev, q.rb fun h => ⟨h.unpin.1, rfl⟩⟩
end
section
variable {X : Cx} {elt tg iter : Expr} {ifs : List Expr} {scope : Scope} {own : List (Str × Nat)} {pos : Pos} {g : TG} {ft : FT} {fi : M (List Dt)} {fc : M Bool} {fe : M Dt} {ix : List Nat}
theorem pts_nilS {X : Cx} : SPT X [] (mRet true) := ⟨fun pins s σ H Q I ⟨B, g, ρ, w, d, ρ', w', R, e, k⟩ => by
  cases e; exact pts_nil.run pins s σ H Q I (k g H R (.refl g))⟩
theorem pts_oneS {X : Cx} {c : Expr} {f : M Bool} (h : ST X c f) : SPT X [c] f := pts_one h
theorem lc_read {K : PySem.W.Frag} {g : TG} (hgo : TGok K g ft ix) (hix : ∀ j ∈ ix, j ∈ own.map (·.2)) {σ : St} {H : Hp} {Q : VK} (h : tN K (nLc ft fi fc fe (own.map (·.2))) σ H Q) : tLc (tI K fi) g (tT K fc) (tE K fe) (own.map (·.2)) σ H Q := by
  obtain ⟨B, g0, ρ, w, r, ρ', w', R, e, q⟩ := h
  obtain ⟨ds, ρ1, w1, e1, f1⟩ := mBind_some e
  obtain ⟨ys, ρe, w2, e2, f2⟩ := mBind_some f1
  cases f2
  refine ⟨B, g0, ρ, w, ds, ρ1, w1, R, e1, fun J g1 H1 R1 l1 W D hD => ?_⟩
  have idem : L2.wipe (L2.wipe σ (own.map (·.2))) (own.map (·.2)) = L2.wipe σ (own.map (·.2)) := by
    have all : ∀ (us vs : List Nat) (τ : St), (∀ j ∈ us, j ∈ vs) → L2.wipe (L2.wipe τ us) vs = L2.wipe τ vs := by
      intro us
      induction us with
      | nil => intro vs τ _; rfl
      | cons u us ih =>
        intro vs τ hsub
        have : L2.wipe τ (u :: us) = (L2.wipe τ us).set u none := rfl
        rw [this, wipe_set_out _ _ (hsub u (by simp)), ih vs τ fun j hj => hsub j (by simp [hj])]
    exact all _ _ _ fun _ h => h
  obtain ⟨G, Y, wk, hG, hY⟩ := W.is
  obtain ⟨oD, nD⟩ := R1.newOwn hD
  refine lc_it wk (fun i H' => ∃ g2 ρ2 w2 acc vs, Rel K (B.pin D (.lst vs)) g2 H' (wipe σ (own.map (·.2))) (wipeE ρ2 (own.map (·.2))) w2 ∧ Gle g1 g2 ∧ RpL K g2 acc vs ∧ loopC ft fc fe (own.map (·.2)) (ds.drop i) acc ρ2 w2 = some (r, ρe, w')) ?_ (fun i H' _ ⟨g2, ρ2, w2, acc, vs, R2, l2, _, _⟩ => hG g2 H' l2 R2.sub) ?_ ?_
  · refine ⟨g1, ρ1, w1, [], [], ?_, .refl _, trivial, e2⟩
    exact (((R1.lay hD).pin upd_same oD nD).wipe _)
  · rintro i x H2 H3 hi' ⟨g2, ρ3, w3, acc, vs, R2, l2, ra, e3⟩ y
    obtain ⟨d, g3, hd, G3, rp⟩ := hY i x H2 H3 g2 hi' l2 R2.sub y
    have hdr : ds.drop i = d :: ds.drop (i + 1) := by
      rw [List.drop_eq_getElem_cons hi']
      have := List.getElem?_eq_getElem hi'
      rw [this] at hd
      cases hd; rfl
    rw [hdr] at e3
    unfold loopC at e3
    split at e3
    · cases e3
    · rename_i ρ4 h4
      have R3 := R2.grow G3
      have l3 : Gle g1 g3 := l2.trans G3.le
      refine hgo _ g3 H3 _ _ w3 d x ρ4 _ R3 rp h4 fun σ4 R4 hw => ⟨?_, ?_⟩
      · rw [hw _ hix, idem]
      · have hw4 : wipe σ4 (own.map (·.2)) = wipe σ (own.map (·.2)) := by rw [hw _ hix, idem]
        split at e3
        · rename_i ρ5 w5 e5
          refine ⟨_, g3, ρ4, w3, true, ρ5, w5, R4, e5, fun g4 H4 R5 l4 => ?_⟩
          split at e3
          · rename_i yv ρ6 w6 e6
            obtain ⟨hz, e3⟩ := ite_some e3
            refine iteT ⟨_, g4, ρ5, w5, yv, ρ6, w6, R5, e6, fun v g5 H5 R6 l5 r5 => ?_⟩
            have hD5 : H5 D = some (.lst vs) := R6.keep D _ (by show upd B.Fr D (.lst vs) D = _; exact upd_same)
            have l6 : Gle g2 g5 := G3.le.trans (l4.trans l5)
            refine ⟨vs, hD5, by rw [← ra.length]; exact of_decide_eq_true hz, g5, ρ6, w6, acc ++ [yv], vs ++ [v], ?_, l2.trans l6, (ra.mono l6).append ⟨r5, trivial⟩, e3⟩
            have := (R6.wipe (own.map (·.2))).repin (u := .lst (vs ++ [v]))
            rw [hw4] at this
            exact this
          · cases e3
        · rename_i ρ5 w5 e5
          refine ⟨_, g3, ρ4, w3, false, ρ5, w5, R4, e5, fun g4 H4 R5 l4 => ?_⟩
          refine iteF ⟨g4, ρ5, w5, acc, vs, ?_, l3.trans l4, ra.mono (G3.le.trans l4), e3⟩
          have := R5.wipe (own.map (·.2))
          rw [hw4] at this
          exact this
        · cases e3
  · rintro H2 ⟨g2, ρ3, w3, acc, vs, R2, l2, ra, e3⟩
    rw [List.drop_length] at e3
    cases e3
    have hD2 : H2 D = some (.lst vs) := R2.keep D _ (by show upd B.Fr D (.lst vs) D = _; exact upd_same)
    have R3 := R2.unpin oD.Fr
    obtain ⟨hF, _, hS⟩ := R2.hid D (.inr rfl)
    have R4 : Rel K B g2 H2 σ (wipeE ρe (own.map (·.2))) w' := by
      have := R3.unwipe (own.map (·.2))
      have z : wipeE (wipeE ρe (own.map (·.2))) (own.map (·.2)) = wipeE ρe (own.map (·.2)) := by
        have out : ∀ (us : List Nat) (τ : En) (u : Nat), (wipeE (τ.set u none) us) = (wipeE τ us).set u none := by
          intro us
          induction us with
          | nil => intro τ u; rfl
          | cons v us ih =>
            intro τ u
            unfold wipeE
            rw [ih τ u]
            by_cases z : v = u
            · subst z; rfl
            · rw [List.set_comm _ _ (Ne.symm z)]
        have all : ∀ (us : List Nat) (τ : En), wipeE (wipeE τ us) us = wipeE τ us := by
          intro us
          induction us with
          | nil => intro τ; rfl
          | cons u us ih =>
            intro τ
            have e1 : wipeE τ (u :: us) = (wipeE τ us).set u none := rfl
            rw [e1]
            show (wipeE ((wipeE τ us).set u none) us).set u none = _
            rw [out, ih, List.set_set]
        exact all _ _
      rw [z] at this
      exact this
    refine q D vs g2 H2 R4 (l1.trans l2) hD2 ra ⟨hF, oD.Fr, oD.H0, fun h => ?_, hS⟩ fun j hj z => ?_
    · exact oD.hid h
    · obtain ⟨s, es, os⟩ := hj
      have es' := (wipeE_get es).1
      obtain ⟨_, ow, _⟩ := R2.owned (i := j) (s := s) (by
        have := wipeE_get es
        exact es) os
      exact ow.hid (.inr z)
theorem sn_lc (hi : SI X tg iter fi) (ok : BlkOk X.N X.env.scope scope own) (hN : X.N.Nodup) (hgo : TGok X.K g ft ix)
    (hg : ∀ (s : Shared) (H : Hp) (C : Addr) (cl : List (Str × Addr)) (fp : List Addr), PG (X.blk s H scope (compEnvC scope cl C X.env) fp) tg g) (ht : ∀ (s : Shared) (H : Hp) (C : Addr) (cl : List (Str × Addr)) (fp : List Addr), SPT (X.blk s H scope (compEnvC scope cl C X.env) fp) ifs fc)
    (he : ∀ (s : Shared) (H : Hp) (C : Addr) (cl : List (Str × Addr)) (fp : List Addr), SE (X.blk s H scope (compEnvC scope cl C X.env) fp) elt fe) (hix : ∀ j ∈ ix, j ∈ own.map (·.2)) (hc : X.calm = true := by rfl) (hs : ∀ x, foldedSetIterable iter X.env x = pure x := by intro _; rfl) :
    SN X (.ListComp elt [⟨tg, iter, ifs, 0⟩] scope pos) (nLc ft fi fc fe (own.map (·.2))) :=
  pe_weak (pe_lc (wi := tI X.K fi) (g := g) (tt := tT X.K fc) (te := tE X.K fe) hc hN hi ok hg ht he hs) fun _ _ _ h => lc_read hgo hix h
theorem n_read {K : PySem.W.Frag} {f : M (List Dt)} {σ : St} {H : Hp} {Q : VK} (h : tE K (mBind f fun ds => mRet (.lst ds)) σ H Q) : tN K f σ H Q := by
  obtain ⟨B, g, ρ, w, d, ρ', w', R, e, k⟩ := h
  obtain ⟨ds, ρ1, w1, e1, e2⟩ := mBind_some e
  cases e2
  refine ⟨B, g, ρ, w, ds, _, _, R, e1, fun a xs g1 H1 R1 l1 hx rx o ne => ?_⟩
  have l2 := Gle.put (g := g1) (p := a) (o := .lst xs) o.F
  refine k _ (g1.put a (.lst xs)) H1 (R1.know o hx rfl (fun i s es => ?_) R1.sep) (l1.trans l2) ⟨a, xs, rfl, put_at, rx.mono l2⟩
  obtain ⟨v, ev, q⟩ := R1.slots i s es
  exact ⟨v, ev, q.put o.F fun h => ne i ⟨s, es, h⟩⟩
def fSetLc (i : Nat) (f : M (List Dt)) : M Fl := mBind f fun ds => setFr i (.lst ds)
theorem ss_setLc (i : Nat) {y : Str} {py spos : Pos} (hi : SI X tg iter fi) (ok : BlkOk X.N X.env.scope scope own) (hN : X.N.Nodup) (hgo : TGok X.K g ft ix)
    (hg : ∀ (s : Shared) (H : Hp) (C : Addr) (cl : List (Str × Addr)) (fp : List Addr), PG (X.blk s H scope (compEnvC scope cl C X.env) fp) tg g) (ht : ∀ (s : Shared) (H : Hp) (C : Addr) (cl : List (Str × Addr)) (fp : List Addr), SPT (X.blk s H scope (compEnvC scope cl C X.env) fp) ifs fc)
    (he : ∀ (s : Shared) (H : Hp) (C : Addr) (cl : List (Str × Addr)) (fp : List Addr), SE (X.blk s H scope (compEnvC scope cl C X.env) fp) elt fe) (hix : ∀ j ∈ ix, j ∈ own.map (·.2)) (hc : X.calm = true := by rfl) (hs : ∀ x, foldedSetIterable iter X.env x = pure x := by intro _; rfl)
    (hy : X.N[i]? = some y := by rfl) (hyl : X.env.scope.names.lookup y = some .local := by rfl) (hsw : swapsWith (.ListComp elt [⟨tg, iter, ifs, 0⟩] scope pos) (some (.Name y py)) spos.line X.env = pure true := by exact sw_true rfl rfl rfl (by decide +kernel)) :
    SS X (.Assign [.Name y py] (.ListComp elt [⟨tg, iter, ifs, 0⟩] scope pos) spos) (fSetLc i (nLc ft fi fc fe (own.map (·.2)))) :=
  ps_weak (ps_setLc (wi := tI X.K fi) (g := g) (tt := tT X.K fc) (te := tE X.K fe) hc hN hy hyl hsw hi ok hg ht he hs) fun D σ H ⟨B, g0, ρ, w, r, ρ', w', R, e, q⟩ => by
    obtain ⟨ds, ρ1, w1, e1, e2⟩ := mBind_some e
    cases e2
    refine lc_read hgo hix (n_read ⟨B, g0, ρ, w, .lst ds, _, _, R, by unfold mBind; rw [e1]; rfl, fun v g' H' R' l rp => ?_⟩)
    exact q _ g' H' (R'.set rp) l
theorem ss_setNLc (i : Nat) {y : Str} {py spos : Pos} (hi : SI X tg iter fi) (ok : BlkOk X.N X.env.scope scope own) (hN : X.N.Nodup) (hgo : TGok X.K g ft ix)
    (hg : ∀ (s : Shared) (H : Hp) (C : Addr) (cl : List (Str × Addr)) (fp : List Addr), PG (X.blk s H scope (compEnvC scope cl C X.env) fp) tg g) (ht : ∀ (s : Shared) (H : Hp) (C : Addr) (cl : List (Str × Addr)) (fp : List Addr), SPT (X.blk s H scope (compEnvC scope cl C X.env) fp) ifs fc)
    (he : ∀ (s : Shared) (H : Hp) (C : Addr) (cl : List (Str × Addr)) (fp : List Addr), SE (X.blk s H scope (compEnvC scope cl C X.env) fp) elt fe) (hix : ∀ j ∈ ix, j ∈ own.map (·.2)) (hc : X.calm = true := by rfl) (hs : ∀ x, foldedSetIterable iter X.env x = pure x := by intro _; rfl)
    (hy : X.N[i]? = some y := by rfl) (hyl : X.env.scope.names.lookup y = some .local := by rfl) (hsw : swapsWith (.ListComp elt [⟨tg, iter, ifs, 0⟩] scope pos) (some (.Name y py)) spos.line X.env = pure true := by exact sw_true rfl rfl rfl (by decide +kernel)) :
    SS X (.Assign [.Name y py] (.ListComp elt [⟨tg, iter, ifs, 0⟩] scope pos) spos) (fSetN i (nLc ft fi fc fe (own.map (·.2)))) :=
  ps_weak (ps_setLc (wi := tI X.K fi) (g := g) (tt := tT X.K fc) (te := tE X.K fe) hc hN hy hyl hsw hi ok hg ht he hs) fun D σ H ⟨B, g0, ρ, w, r, ρ', w', R, e, q⟩ => by
    obtain ⟨ds, ρ1, w1, e1, e2⟩ := mBind_some e
    cases e2
    refine lc_read hgo hix ⟨B, g0, ρ, w, ds, _, _, R, e1, fun a xs g' H' R' l hx rx o ne => ?_⟩
    refine q _ { g' with ad := fun j => if j = i then a else g'.ad j } H' (R'.setOw (i := i) (t := .owL ds) o ne ⟨?_, ?_, xs, ?_, RpL.mono Gle.ad rx⟩) ⟨l.F, l.S⟩
    · show some (V.ref a) = some (V.ref (if i = i then a else g'.ad i)); rw [if_pos rfl]
    · show OwnA B _ (if i = i then a else g'.ad i); rw [if_pos rfl]; exact o.ad
    · show H' (if i = i then a else g'.ad i) = _; rw [if_pos rfl]; exact hx
end
end Lw

end
section
set_option Elab.async false
set_option linter.all false
set_option maxRecDepth 100000
set_option maxHeartbeats 2000000
namespace Lw
open PySem PySem.Spec L2
open PyProof.Rows (envOfC)

/-! ### a def -/
def env0 (n : Nat) (ds : List Dt) : En := ds.map (fun d => some (Sl.fr d)) ++ List.replicate (n - ds.length) none
def runF (F : M Fl) (n : Nat) : Fn := fun ds w => match F (env0 n ds) w with
  | some (.rt d, _, w') => some (d, w')
  | some (.nx, _, w') => some (.non, w')
  | _ => none
open Classical in
noncomputable def frOf (g : Gh) (H : Hp) : Hp := fun a => if IsSrc g a then none else H a
theorem rel0 {K : PySem.W.Frag} {g : Gh} {H : Hp} {w : Wd} {ds : List Dt} {vs : List V} {N : List Str} (hs : ∀ a o, g.F a = some o → H a = some o) (hsrc : SrcOk g H w) (r : RpL K g ds vs) (hN : vs.length ≤ N.length) :
    Rel K ⟨g, H, frOf g H, fun _ => False⟩ g H (start N vs) (env0 N.length ds) w := by
  have hl := r.length
  refine ⟨hs, hsrc, fun a q => ?_, fun a o h => ?_, fun a h => h, fun a o h => .inl h, .refl g, fun e a q => ?_, fun a q => q.elim, ?_, fun i s e => ?_, fun i j _ hi _ => ?_⟩
  · show frOf g H a = none
    unfold frOf; rw [if_pos q]
  · have h' : frOf g H a = some o := h
    unfold frOf at h'
    split at h'
    · cases h'
    · exact h'
  · obtain ⟨s, c, z, _⟩ := q
    have e' : g.S = none := e
    rw [e'] at z; cases z
  · unfold L2.start env0; simp; omega
  · unfold env0 at e
    unfold L2.start
    by_cases hi : i < ds.length
    · rw [List.getElem?_append_left (by simpa using hi), List.getElem?_map] at e
      cases z : ds[i]? with
      | none => rw [z] at e; cases e
      | some d =>
        rw [z] at e; cases e
        obtain ⟨v, hv, q⟩ := r.get z
        refine ⟨some v, ?_, v, rfl, q⟩
        rw [List.getElem?_append_left (by rw [List.length_map, ← hl]; exact hi), List.getElem?_map, hv]; rfl
    · rw [List.getElem?_append_right (by simpa using Nat.le_of_not_lt hi), List.getElem?_replicate] at e
      split at e <;> cases e
  · obtain ⟨s, e, o⟩ := hi
    unfold env0 at e
    by_cases hi : i < ds.length
    · rw [List.getElem?_append_left (by simpa using hi), List.getElem?_map] at e
      cases z : ds[i]? with
      | none => rw [z] at e; cases e
      | some d => rw [z] at e; cases e; cases o
    · rw [List.getElem?_append_right (by simpa using Nat.le_of_not_lt hi), List.getElem?_replicate] at e
      split at e <;> cases e
theorem rel_stp {K : PySem.W.Frag} {g g' : Gh} {H H' : Hp} {w w' : Wd} {σ : St} {ρ : En} (R : Rel K ⟨g, H, frOf g H, fun _ => False⟩ g' H' σ ρ w') : Stp g H { g' with ad := g.ad } H' w' := by
  refine ⟨R.sub, ?_, fun a o h n => R.keep a o ?_, R.old, R.newF, ⟨R.le.F, R.le.S⟩, R.srcN, rfl⟩
  · cases w' with
    | none => exact R.src
    | some st => exact R.src
  · show frOf g H a = some o
    unfold frOf; rw [if_neg n]; exact h
theorem sp_run {K : PySem.W.Frag} {F : M Fl} {N : List Str} {n : Nat} {vs : List V} {H : Hp} {Q : VK} {E : XK} (hn : n ≤ N.length) (h : spM K (runF F N.length) n vs H Q E) : tS K F { nx := fun _ H' => Q .non H', rt := Q } (start N vs) H := by
  obtain ⟨hl, g, w, ds, d, w', hs, hsrc, r, hm, k⟩ := h
  have R := rel0 (N := N) hs hsrc r (by omega)
  unfold runF at hm
  split at hm
  · rename_i d' ρ' w2 e
    cases hm
    exact ⟨_, g, _, w, _, ρ', _, R, e, fun v σ' g' H' R' l rp => k v _ H' (rel_stp (w := w) R') (rp_ad rp)⟩
  · rename_i ρ' w2 e
    cases hm
    exact ⟨_, g, _, w, _, ρ', _, R, e, fun σ' g' H' R' l => k .non _ H' (rel_stp (w := w) R') rfl⟩
  · cases hm
section
variable {P : Program} {w : World} {K : PySem.W.Frag} {mg : Str → Option Value} {base : Heap}
theorem df_mk {x : Str} {st : Stmt} {f : Addr} {fd : FuncData} {N ps : List Str} {k : Nat} {F : M Fl} (FU : Fun K x x st f fd) (S : FnScope N ps (defScope st)) (hb : Binds K fd ps []) (hm : mg x = some (.ref f)) (hn : ps.length ≤ N.length)
    (body : ∀ (cdv : Value) (A : Around) (outer : List Env) (s : Shared) (H : Hp) (E : XK), Room k (A.deeper (envOfC x (defScope st) s.heap.objs.size f cdv)) → SSs (cxOf CX0 P w K mg base N x (defScope st) f cdv A outer s H E).nox (defBody st) F) :
    Df P w K mg base x ps (k + 1) (runF F N.length) :=
  ⟨f, fd, hm, FU.kp, hb, FU.ok S (fun vs H Q E h => h.1) fun cdv A outer s H vs Q E hr h => ⟨_, body cdv A outer s H E hr, sp_run hn h⟩⟩
/-- another way to say what it does -/
theorem Df.imp {x : Str} {ps : List Str} {k : Nat} {m m' : Fn} (D : Df P w K mg base x ps k m) (h : ∀ ds w r, m' ds w = some r → m ds w = some r) : Df P w K mg base x ps k m' := by
  obtain ⟨f, fd, h1, h2, h3, F⟩ := D
  refine ⟨f, fd, h1, h2, h3, F.imp fun vs H Q E ⟨hl, g, w, ds, d, w', hs, hsrc, r, hm, q⟩ => ⟨hl, g, w, ds, d, w', hs, hsrc, r, h _ _ _ hm, q⟩⟩
theorem Df.up {x : Str} {ps : List Str} {j k : Nat} {m : Fn} (D : Df P w K mg base x ps j m) (h : j ≤ k) : Df P w K mg base x ps k m := by
  obtain ⟨f, fd, h1, h2, h3, F⟩ := D
  exact ⟨f, fd, h1, h2, h3, F.mono h⟩
end

/-! ### what is drawn from -/
section
variable {K : PySem.W.Frag} {B : Bs} {g g' : Gh} {H H' : Hp} {σ : St} {ρ : En} {w w' : Wd}
theorem Rel.wsrc {p : Addr} {o : HO} (R : Rel K B g H σ ρ w) (hp : IsSrc g p) (hs : SrcOk g (upd H p o) w') : Rel K B g (upd H p o) σ ρ w' := by
  have hF : g.F p = none := (R.src.some_of hp).2
  have some' : ∀ a, H a ≠ none → upd H p o a ≠ none := fun a h => by
    by_cases z : a = p
    · subst z; rw [upd_same]; simp
    · rw [upd_ne z]; exact h
  refine ⟨fun a v h => ?_, hs, R.srcF, fun a v h => ?_, fun a h => some' a (R.old a h), R.newF, R.le, R.srcN, fun a q => ?_, R.len, fun i s e => ?_, R.sep⟩
  · rw [upd_ne fun z => by rw [z, hF] at h; cases h]; exact R.sub _ _ h
  · rw [upd_ne fun z => by rw [z, R.srcF p hp] at h; cases h]; exact R.keep _ _ h
  · obtain ⟨h1, h2, h3⟩ := R.hid a q
    exact ⟨h1, some' a h2, h3⟩
  · obtain ⟨v, ev, q⟩ := R.slots i s e
    exact ⟨v, ev, q.rb fun h => ⟨h, upd_ne fun z => h.src (z ▸ hp)⟩⟩
end
inductive Pt where
  | left | mixed | turn
def Pt.nm : Pt → Str
  | .left => "left"
  | .mixed => "mixed"
  | .turn => "turn"
def Sc.get (s : Sc) : Pt → Int
  | .left => s.left
  | .mixed => s.mixed
  | .turn => s.turn
def Sc.put (s : Sc) : Pt → Int → Sc
  | .left, i => { s with left := i }
  | .mixed, i => { s with mixed := i }
  | .turn, i => { s with turn := i }
theorem val_src (c : Addr) (s : Sc) (p : Pt) : valV (srcDict c s) (Sum.inr p.nm) = some (.int (s.get p)) := by
  cases p <;> rfl
theorem val_cells (c : Addr) (s : Sc) : valV (srcDict c s) (Sum.inr "cells") = some (.ref c) := rfl
theorem put_src (c : Addr) (s : Sc) (p : Pt) (i : Int) : putK (srcDict c s) (Sum.inr p.nm) (.int i) = srcDict c (s.put p i) := by
  cases p <;> rfl
def isSrcSl (ρ : En) (i : Nat) : Bool := match ρ[i]? with
  | some (some (.fr .src)) => true
  | _ => false
def isCelSl (ρ : En) (i : Nat) : Bool := match ρ[i]? with
  | some (some (.fr .cel)) => true
  | _ => false
theorem isSrcSl_some {ρ : En} {i : Nat} (h : isSrcSl ρ i = true) : ρ[i]? = some (some (.fr .src)) := by
  unfold isSrcSl at h
  split at h
  · assumption
  · cases h
theorem isCelSl_some {ρ : En} {i : Nat} (h : isCelSl ρ i = true) : ρ[i]? = some (some (.fr .cel)) := by
  unfold isCelSl at h
  split at h
  · assumption
  · cases h
def fSrcGet (i : Nat) (p : Pt) : M Dt := fun ρ w => match w with
  | some s => if isSrcSl ρ i then some (.int (s.get p), ρ, w) else none
  | none => none
def fSrcCel (i : Nat) : M Dt := fun ρ w => match w with
  | some s => if isSrcSl ρ i then some (.cel, ρ, w) else none
  | none => none
def fCelLen (i : Nat) : M Dt := fun ρ w => match w with
  | some s => if isCelSl ρ i then some (.int s.cells.length, ρ, w) else none
  | none => none
def fCelPop (i : Nat) : M Dt := fun ρ w => match w with
  | some s => if isCelSl ρ i then (match s.cells[s.cells.length - 1]? with | some n => some (.int n, ρ, some { s with cells := s.cells.dropLast }) | none => none) else none
  | none => none
def mSrcPut (i : Nat) (p : Pt) (d : Dt) : M Fl := fun ρ w => match w with
  | some s => match d with
    | .int n => if isSrcSl ρ i then some (.nx, ρ, some (s.put p n)) else none
    | _ => none
  | none => none
def fSrcPut (i : Nat) (p : Pt) (f : M Dt) : M Fl := mBind f fun d => mSrcPut i p d
section
variable {X : Cx} {pos : Pos} {e : Expr} {es : List Expr}
theorem src_at {K : PySem.W.Frag} {B : Bs} {g : Gh} {H : Hp} {σ : St} {ρ : En} {w : Wd} {i : Nat} (R : Rel K B g H σ ρ w) (h : isSrcSl ρ i = true) : ∃ a c, g.S = some (a, c) ∧ σ[i]? = some (some (.ref a)) := by
  obtain ⟨o, eo, v, ev, a, c, ea, hS⟩ := R.slots i _ (isSrcSl_some h)
  subst ev ea
  exact ⟨a, c, hS, eo⟩
theorem cel_at {K : PySem.W.Frag} {B : Bs} {g : Gh} {H : Hp} {σ : St} {ρ : En} {w : Wd} {i : Nat} (R : Rel K B g H σ ρ w) (h : isCelSl ρ i = true) : ∃ a c, g.S = some (a, c) ∧ σ[i]? = some (some (.ref c)) := by
  obtain ⟨o, eo, v, ev, a, c, ea, hS⟩ := R.slots i _ (isCelSl_some h)
  subst ev ea
  exact ⟨a, c, hS, eo⟩
theorem se_srcGet (i : Nat) (p : Pt) {x : Str} {px pc : Pos} {j : Nat} (hu : X.A.units + 1 < cLine) (ht : PE X (.Name x px) (tVar i) := by exact pv _) : SE X (.Subscript (.Name x px) (.Constant (.str p.nm) j pc) pos) (fSrcGet i p) :=
  pe_weak (pe_dget hu ht pe_str (fun _ _ => rfl)) fun σ H Q ⟨B, g, ρ, w, d, ρ', w', R, e, k⟩ => by
    unfold fSrcGet at e
    split at e
    · rename_i s
      obtain ⟨h1, e⟩ := ite_some e
      cases e
      obtain ⟨a, c, hS, hσ⟩ := src_at R h1
      obtain ⟨a', c', h2, h3, h4, h5, h6, h7⟩ := R.src
      rw [hS] at h2; cases h2
      refine ⟨_, hσ, _, .int (s.get p), rfl, ?_, k _ g H R (.refl g) rfl⟩
      have := DGet.k (k := Sum.inr p.nm) h4
      rw [val_src] at this
      exact this
    · cases e
theorem se_srcCel (i : Nat) {x : Str} {px pc : Pos} {j : Nat} (hu : X.A.units + 1 < cLine) (ht : PE X (.Name x px) (tVar i) := by exact pv _) : SE X (.Subscript (.Name x px) (.Constant (.str "cells") j pc) pos) (fSrcCel i) :=
  pe_weak (pe_dget hu ht pe_str (fun _ _ => rfl)) fun σ H Q ⟨B, g, ρ, w, d, ρ', w', R, e, k⟩ => by
    unfold fSrcCel at e
    split at e
    · rename_i s
      obtain ⟨h1, e⟩ := ite_some e
      cases e
      obtain ⟨a, c, hS, hσ⟩ := src_at R h1
      obtain ⟨a', c', h2, h3, h4, h5, h6, h7⟩ := R.src
      rw [hS] at h2; cases h2
      refine ⟨_, hσ, _, .ref c, rfl, ?_, k _ g H R (.refl g) ⟨a, c, rfl, hS⟩⟩
      have := DGet.k (k := Sum.inr "cells") h4
      rw [val_cells] at this
      exact this
    · cases e
theorem se_celLen (i : Nat) {x : Str} {px p : Pos} (hm : X.mg "len" = none) (hg : Gl X "len" := by rfl) (ht : PE X (.Name x px) (tVar i) := by exact pv _) : SE X (.Call (.Name "len" p) [.Name x px] [] pos) (fCelLen i) :=
  pe_weak (pe_callB call_len_seq hg hm PySem.boot_len (pa_cons ht pa_nil)) fun σ H Q ⟨B, g, ρ, w, d, ρ', w', R, e, k⟩ => by
    unfold fCelLen at e
    split at e
    · rename_i s
      obtain ⟨h1, e⟩ := ite_some e
      cases e
      obtain ⟨a, c, hS, hσ⟩ := cel_at R h1
      obtain ⟨a', c', h2, h3, h4, h5, h6, h7⟩ := R.src
      rw [hS] at h2; cases h2
      refine ⟨_, hσ, c, _, rfl, .inl (SqL.of h5), ?_⟩
      rw [List.length_map]
      exact k _ g H R (.refl g) rfl
    · cases e
theorem se_celPop (i : Nat) {x : Str} {px ap : Pos} (hN : X.N[i]? = some x := by rfl) (hm : PE X (.Call (.Attribute (.Name x px) "pop" ap) [] [] pos) (tBM0 X.K "list" rPop (tVar i)) := by exact pe_bm0 PySem.F.plainAttrs_list PySem.F.slot_list_pop PySem.F.type_list_pop mt_pop (pv _)) :
    SE X (.Call (.Attribute (.Name x px) "pop" ap) [] [] pos) (fCelPop i) :=
  pe_weak hm fun σ H Q ⟨B, g, ρ, w, d, ρ', w', R, e, k⟩ => by
    unfold fCelPop at e
    split at e
    · rename_i s
      obtain ⟨h1, e⟩ := ite_some e
      split at e
      · rename_i n hn
        cases e
        obtain ⟨a, c, hS, hσ⟩ := cel_at R h1
        obtain ⟨a', c', h2, h3, h4, h5, h6, h7⟩ := R.src
        rw [hS] at h2; cases h2
        refine ⟨_, hσ, .inl ⟨rfl, _, SqL.of h5⟩, c, _, .int n, rfl, rfl, h5, by rw [List.length_map, List.getElem?_map, hn]; rfl, ?_⟩
        rw [show (s.cells.map V.int).dropLast = s.cells.dropLast.map V.int by rw [List.dropLast_eq_take, List.dropLast_eq_take, List.map_take, List.length_map]]
        refine k _ g _ (R.wsrc ⟨a, c, hS, .inr rfl⟩ ⟨a, c, hS, h3, ?_, upd_same, h6, h7⟩) (.refl g) rfl
        rw [upd_ne h3]; exact h4
      · cases e
    · cases e
theorem ss_srcPut (i : Nat) (p : Pt) {x : Str} {px pc sp : Pos} {j : Nat} {f : M Dt} (hu : X.A.units + 1 < cLine) (he : SE X e f) (ht : PE X (.Name x px) (tVar i) := by exact pv _)
    (hs : swapsWith e (some (.Subscript (.Name x px) (.Constant (.str p.nm) j pc) sp)) pos.line X.env = pure false := by rfl) : SS X (.Assign [.Subscript (.Name x px) (.Constant (.str p.nm) j pc) sp] e pos) (fSrcPut i p f) :=
  ps_weak (ps_dput hu ht pe_str he hs) fun D σ H ⟨B, g, ρ, w, r, ρ', w', R, e, q⟩ => by
    obtain ⟨d, ρ1, w1, e1, e2⟩ := mBind_some e
    refine ⟨B, g, ρ, w, d, ρ1, w1, R, e1, fun v g1 H1 R1 l1 r1 => ?_⟩
    unfold mSrcPut at e2
    split at e2
    · rename_i s
      split at e2
      · rename_i n
        obtain ⟨h1, e2⟩ := ite_some e2
        cases e2
        cases r1
        obtain ⟨a, c, hS, hσ⟩ := src_at R1 h1
        obtain ⟨a', c', h2, h3, h4, h5, h6, h7⟩ := R1.src
        rw [hS] at h2; cases h2
        have dp := DPut.k (k := Sum.inr p.nm) (v := .int n) h4 (by show 4 < sizeLine; decide)
        rw [put_src] at dp
        refine ⟨_, hσ, a, _, rfl, dp, q σ g1 _ (R1.wsrc ⟨a, c, hS, .inl rfl⟩ ⟨a, c, hS, h3, upd_same, ?_, h6, h7⟩) l1⟩
        rw [upd_ne h3.symm]
        cases p <;> exact h5
      · cases e2
    · cases e2
/-! the source is opened -/
def fOpen (fc : M RV) (fm : M Dt) : M Dt := mBind fc fun r => mBind (mRd r) fun c => mBind fm fun m ρ w => match c, m, w with
  | .lst ds, .int n, none => match intsOf ds with
    | some ns => some (.src, ρ, some ⟨ns.reverse, 1, n, 0⟩)
    | none => none
  | _, _, _ => none
end
end Lw

end
section
set_option Elab.async false
set_option linter.all false
set_option maxRecDepth 100000
set_option maxHeartbeats 2000000
namespace Lw
open PySem PySem.Spec L2
open PyProof.Rows (envOfC)

section
variable {K : PySem.W.Frag} {B : Bs} {g g' : Gh} {H H' : Hp} {σ : St} {ρ : En} {w w' : Wd}
theorem Rel.openS {p q : Addr} {s : Sc} (R : Rel K B g H σ ρ none) (hp : H p = none) (hq : H q = none) (ne : p ≠ q) (k : ∀ a, a ≠ p → a ≠ q → H' a = H a) (h1 : H' p = some (.dK (srcDict q s))) (h2 : H' q = some (.lst (s.cells.map V.int))) :
    Rel K B { g with S := some (p, q) } H' σ ρ (some s) := by
  have hS : g.S = none := R.src
  have at' : ∀ a o, H a = some o → H' a = some o := fun a o h => by rw [k a (ne_of_none h hp) (ne_of_none h hq)]; exact h
  have there : ∀ a, H a ≠ none → H' a ≠ none := fun a h => by
    cases e : H a with
    | none => exact absurd e h
    | some o => rw [at' a o e]; simp
  have le : Gle g { g with S := some (p, q) } := ⟨fun _ _ h => h, .inl hS⟩
  have isS : ∀ a, IsSrc { g with S := some (p, q) } a → H a = none := fun a ⟨s', c', e, z⟩ => by
    have e' : some (p, q) = some (s', c') := e
    cases e'
    rcases z with rfl | rfl
    · exact hp
    · exact hq
  have own : ∀ a, OwnA B g a → H a ≠ none → OwnA B { g with S := some (p, q) } a := fun a h hH => ⟨h.F, h.Fr, h.H0, h.hid, fun z => hH (isS a z)⟩
  have fn : ∀ a, H a = none → g.F a = none := fun a h => by
    cases e : g.F a with
    | none => rfl
    | some o => rw [R.sub _ _ e] at h; cases h
  refine ⟨fun a o h => at' a o (R.sub a o h), ⟨p, q, rfl, ne, h1, h2, fn p hp, fn q hq⟩, fun a z => ?_, fun a o h => at' a o (R.keep a o h), fun a h => there a (R.old a h), R.newF, R.le.trans le, fun e a z => ?_, fun a z => ?_, R.len, fun i t e => ?_, R.sep⟩
  · cases e : B.Fr a with
    | none => rfl
    | some o =>
      have y := isS a z
      rw [R.keep a o e] at y; cases y
  · cases e2 : B.H0 a with
    | none => rfl
    | some u => exact absurd (isS a z) (R.old a (by rw [e2]; simp))
  · obtain ⟨x1, x2, x3⟩ := R.hid a z
    exact ⟨x1, there a x2, fun y => x2 (isS a y)⟩
  · obtain ⟨v, ev, qq⟩ := R.slots i t e
    refine ⟨v, ev, ?_⟩
    cases t with
    | fr d => obtain ⟨u, eu, r⟩ := qq; exact ⟨u, eu, r.mono le⟩
    | owL ds => obtain ⟨y1, y2, xs, hx, r⟩ := qq; exact ⟨y1, own _ y2 (by rw [hx]; simp), xs, at' _ _ hx, r.mono le⟩
    | owK ks ds => obtain ⟨y1, y2, xs, hx, kk, r⟩ := qq; exact ⟨y1, own _ y2 (by rw [hx]; simp), xs, at' _ _ hx, kk, r.mono le⟩
    | owX ks ds => obtain ⟨y1, y2, xs, hx, kk, r⟩ := qq; exact ⟨y1, own _ y2 (by rw [hx]; simp), xs, at' _ _ hx, kk, r.mono le⟩
end
def fOpenS (i j : Nat) : M Dt := fun ρ w => match ρ[i]?, ρ[j]?, w with
  | some (some (.fr (.lst ds))), some (some (.fr (.int n))), none => match intsOf ds with
    | some ns => some (.src, ρ, some ⟨ns.reverse, 1, n, 0⟩)
    | none => none
  | _, _, _ => none
section
variable {X : Cx} {pos : Pos}
theorem se_openS (i j : Nat) {x y : Str} {px py p1 p2 p3 p4 p5 p6 p7 p8 p9 p0 : Pos} {k1 k2 k3 k4 k5 k6 k7 : Nat} (hi : PE X (.Name x px) (tVar i) := by exact pv _) (hj : PE X (.Name y py) (tVar j) := by exact pv _) :
    SE X (.Dict [some (.Constant (.str "cells") k1 p1), some (.Constant (.str "left") k2 p2), some (.Constant (.str "mixed") k3 p3), some (.Constant (.str "turn") k4 p4)]
      [.Subscript (.Name x px) (.Slice none none (some (.UnaryOp .USub (.Constant (.int 1) k5 p5) p6)) p7) p8, .Constant (.int 1) k6 p9, .Name y py, .Constant (.int 0) k7 p0] pos) (fOpenS i j) :=
  pe_weak (pe_disp (pps_cons pe_str (pe_revL hi) (pps_cons pe_str pe_int (pps_cons pe_str hj (pps_cons pe_str pe_int pps_nil)))) rfl rfl (by intro h; cases h) (by show 4 ≤ 15; decide)) fun σ H Q ⟨B, g, ρ, w, d, ρ', w', R, e, k⟩ => by
    unfold fOpenS at e
    split at e
    · rename_i ds n hds hn
      split at e
      · rename_i ns hns
        cases e
        intro p hp
        obtain ⟨o1, eo1, v1, ev1, r1⟩ := R.slots i _ hds
        obtain ⟨o2, eo2, v2, ev2, r2⟩ := R.slots j _ hn
        subst ev1 ev2
        cases r2
        obtain ⟨a, xs, ea, hx, rx⟩ := r1
        subst ea
        rw [intsOf_some hns] at rx
        rw [rx.ints] at hx
        have hxH := R.sub _ _ hx
        refine ⟨_, eo1, a, _, rfl, SqL.of (by rw [upd_ne (ne_of_none hxH hp)]; exact hxH), fun q hq => ?_⟩
        have nqp : q ≠ p := fun z => by rw [z, upd_same] at hq; cases hq
        have hq0 : H q = none := by rw [upd_ne nqp] at hq; exact hq
        refine ⟨_, eo2, ?_⟩
        refine ⟨by rw [upd_ne nqp.symm]; exact upd_same, [(Sum.inr "cells", .ref q), (Sum.inr "left", .int 1), (Sum.inr "mixed", .int n), (Sum.inr "turn", .int 0)], rfl, by show 4 ≤ 15; decide, ?_⟩
        refine k (.ref p) { g with S := some (p, q) } _ (R.openS (s := ⟨ns.reverse, 1, n, 0⟩) hp hq0 nqp.symm (fun b h1 h2 => ?_) ?_ ?_) ⟨fun _ _ h => h, .inl R.src⟩ ⟨p, q, rfl, rfl⟩
        · rw [upd_ne h1, upd_ne h2, upd_ne h1]
        · rw [upd_same]; rfl
        · rw [upd_ne nqp, upd_same, List.map_reverse]
      · cases e
    · cases e
end
end Lw

end
section
set_option Elab.async false
set_option linter.all false
set_option maxRecDepth 100000
set_option maxHeartbeats 2000000
namespace Lw
open PySem PySem.Spec L2
open PyProof.Rows (envOfC)

theorem hu65 {k : Nat} {A : Around} (hr : Room k A) : A.units + 65 < cLine := by have := hr.un; omega
/-- the def x of the text stands in what the top has written -/
def Here (K : PySem.W.Frag) (x : Str) (st : Stmt) : Prop := ∃ (f : Addr) (oc : Value) (od : Option Addr) (kV dc pm : Value) (an : Option Addr) (cd ct : Value) (sl : Array (Option Value)),
  PySem.W.nsIn K mainGlobals x = some (some (.ref f)) ∧ K.lookup f = some ⟨oc, od, .func (PySem.W.fnOf x x (defArgs st) (defBody st) (defScope st) .none kV dc pm an cd ct), sl⟩ ∧ PySem.W.codeIn K cd x = true ∧ PySem.W.keepIn K (.ref f) = true
theorem here {K : PySem.W.Frag} {x : Str} {st : Stmt} {f : Addr} {oc : Value} {od : Option Addr} {kV dc pm : Value} {an : Option Addr} {cd ct : Value} {sl : Array (Option Value)} (a : PySem.W.nsIn K mainGlobals x = some (some (.ref f)))
    (l : K.lookup f = some ⟨oc, od, .func (PySem.W.fnOf x x (defArgs st) (defBody st) (defScope st) .none kV dc pm an cd ct), sl⟩) (c : PySem.W.codeIn K cd x = true) (k : PySem.W.keepIn K (.ref f) = true) : Here K x st :=
  ⟨f, oc, od, kV, dc, pm, an, cd, ct, sl, a, l, c, k⟩
theorem Here.fn {K : PySem.W.Frag} {x : Str} {st : Stmt} {h : Heap} {mg : Str → Option Value} (H : Here K x st) (X : K.In h) (G : h.Ns mainGlobals mg) : ∃ f fd, Fun K x x st f fd ∧ mg x = some (.ref f) := by
  obtain ⟨f, oc, od, kV, dc, pm, an, cd, ct, sl, a, l, c, k⟩ := H
  exact ⟨f, _, fun_mk l c k, PySem.W.mg_of X G a⟩
/-- the law's def, at its place -/
theorem law_fn {P : Program} {w : World} {K : PySem.W.Frag} {mg : Str → Option Value} {base : Heap} {k : Nat} {m : Fn} {fa f : Addr} {fd : FuncData} {st : Stmt} (D : Df P w K mg base "law" ["script"] k m) (FU : Fun K "law" "law" st f fd) (hm : mg "law" = some (.ref f)) (hb : Binds K fd ["script"] [])
    (F : FnOk P w K mg base CX0 k f fd ["script"] (spM K m 1)) : FnOk P w K mg base CX0 k f fd ["script"] (spM K m 1) := F
theorem fn_mk {P : Program} {w : World} {K : PySem.W.Frag} {mg : Str → Option Value} {base : Heap} {x : Str} {st : Stmt} {f : Addr} {fd : FuncData} {N ps : List Str} {k : Nat} {F : M Fl} (FU : Fun K x x st f fd) (S : FnScope N ps (defScope st)) (hn : ps.length ≤ N.length)
    (body : ∀ (cdv : Value) (A : Around) (outer : List Env) (s : Shared) (H : Hp) (E : XK), Room k (A.deeper (envOfC x (defScope st) s.heap.objs.size f cdv)) → SSs (cxOf CX0 P w K mg base N x (defScope st) f cdv A outer s H E).nox (defBody st) F) :
    FnOk P w K mg base CX0 (k + 1) f fd ps (spM K (runF F N.length) ps.length) :=
  FU.ok S (fun vs H Q E h => h.1) fun cdv A outer s H vs Q E hr h => ⟨_, body cdv A outer s H E hr, sp_run hn h⟩
theorem law_sp {K : PySem.W.Frag} {m : Fn} (hm : ∀ ns : List Int, ns.length ≤ 63 → ∃ w', m [.rol ns] none = some (.bl true, w')) (H : Hp) (a : Addr) (ns : List Int) (hl : ns.length ≤ 63) (hs : SqL K H a (ns.map V.int)) :
    spM K m 1 [.ref a] H (fun v _ => v = .bl true) E0 := by
  obtain ⟨w', e⟩ := hm ns hl
  exact ⟨rfl, ⟨H, none, fun _ => 0⟩, none, [.rol ns], _, w', fun _ _ h => h, rfl, ⟨⟨a, rfl, hs⟩, trivial⟩, e, fun v g' H' _ r => r⟩
theorem law_walk {l : PySem.W.OpenLaw} {q : Program} {loose : List Str} {XP : (Str → Option Value) → Heap → Prop} {YP : World → Heap → Prop} {d : DefRec} {K : Params → PySem.W.Frag} {k : Nat} {m : Fn} (hn : l.most = some 63) (hdf : d.params.defaults = [])
    (hY : ∀ (w : World) (h : Heap), YP w h → (K w.params).In h) (hr : Room k PySem.callerA) (hm : ∀ ns : List Int, ns.length ≤ 63 → ∃ w', m [.rol ns] none = some (.bl true, w'))
    (F : ∀ (w : World) (mg : Str → Option Value) (fa : Addr) (h : Heap), (K w.params).In h → h.Ns mainGlobals mg → mg d.name = some (.ref fa) →
      ∃ fd : FuncData, (∀ (s : Shared) (u : Value), BindsTo s fd ⟨[u], []⟩ [("script", u)]) ∧ ∀ base : Heap, (K w.params).In base → base.Ns mainGlobals mg → FnOk l.prog w (K w.params) mg base CX0 k fa fd ["script"] (spM (K w.params) m 1)) :
    PySem.W.WalkO q loose XP YP l.row.toRowW d [] (fun f vs => PySem.call f vs) :=
  L2.walk_of (n := 63) (x := "script") (CX := fun _ => CX0) (sp := fun w => spM (K w.params) m 1) hn (by decide) hdf hr hY F (fun w H a ns hl _ hs => law_sp hm H a ns hl hs) fun _ _ _ _ _ z => z
end Lw

end
section
set_option Elab.async false
set_option linter.all false
set_option maxRecDepth 100000
set_option maxHeartbeats 2000000
namespace Lw
open PySem PySem.Spec L2
open PyProof.Rows (envOfC)

/-! ### zip of lists and tuples in any mix -/
def SqB (K : PySem.W.Frag) (k : Bool) (H : Hp) (a : Addr) (xs : List V) : Prop := match k with
  | true => SqL K H a xs
  | false => SqT K H a xs
def IsB (k : Bool) (h : Heap) (a : Addr) (its : Array Value) : Prop := match k with
  | true => h.IsList a its
  | false => h.IsTuple a its
def ItB (k : Bool) (h : Heap) (it a : Addr) (i : Nat) : Prop := match k with
  | true => h.IsListIter it a i
  | false => h.IsTupleIter it a i
theorem ItB.keep {k : Bool} {h h' : Heap} {it a : Addr} {i : Nat} (x : ItB k h it a i) (hs : ∀ o, h.get? it = some o → h'.get? it = some o) : ItB k h' it a i := by
  cases k with
  | true => exact Heap.IsListIter.at x fun o e => hs o e
  | false => exact Heap.IsTupleIter.at x fun o e => hs o e
theorem ItB.obj {k : Bool} {h : Heap} {it a : Addr} {i : Nat} (x : ItB k h it a i) : ∃ o, h.get? it = some o ∧ ∀ v, o.data ≠ .cell v := by
  cases k with
  | true => obtain ⟨o, e, _, d⟩ := x; exact ⟨o, e, fun v q => by rw [d] at q; cases q⟩
  | false => obtain ⟨o, e, _, d⟩ := x; exact ⟨o, e, fun v q => by rw [d] at q; cases q⟩
theorem readB {X : Cx} {pins : List (Addr × Obj)} {σ : L2.St} {H : Hp} {s : Shared} {k : Bool} {a : Addr} {xs : List V} (I : Inv X pins σ H s) (h : SqB X.K k H a xs) : ∃ its : List Value, Vals xs its ∧ IsB k s.heap a its.toArray ∧ a < s.heap.objs.size := by
  cases k with
  | true =>
    obtain ⟨its, rv, p, _⟩ := I.list h
    exact ⟨its, rv, p.isList, p.lt⟩
  | false =>
    obtain ⟨its, rv, p, _⟩ := I.tuple h
    obtain ⟨o, ho, _⟩ := id p
    exact ⟨its, rv, p, Heap.lt_size ho⟩
theorem injB {X : Cx} {pins : List (Addr × Obj)} {σ : L2.St} {H : Hp} {s : Shared} {k : Bool} {a : Addr} {xs ys : List V} (I : Inv X pins σ H s) (h : SqB X.K k H a xs) (h' : SqB X.K k H a ys) : xs = ys := by
  cases k with
  | true => exact I.list_inj h h'
  | false => exact I.tuple_inj h h'
theorem drawB {P : Program} {w : World} {A : Around} (hh : A.handled = none) (k : Bool) (it a : Addr) (ne : a ≠ it) (its : Array Value) :
    Draws P w A it [it, a] its.size (fun i v => its[i]? = some v) (fun i h => ItB k h it a i ∧ IsB k h a its) := by
  cases k with
  | true => exact Draws.list hh it a ne its
  | false => exact Draws.tuple hh it a ne its
def ItzB (K : PySem.W.Frag) (k l : Bool) (a b : Addr) : It :=
  ⟨fun i H => ∃ (xs ys : List V) (x y : V), SqB K k H a xs ∧ SqB K l H b ys ∧ xs[i]? = some x ∧ ys[i]? = some y,
    fun i H v H' => ∃ T x y, v = .ref T ∧ H T = none ∧ H' = upd H T (.tup [x, y]) ∧ (∀ xs, SqB K k H a xs → xs[i]? = some x) ∧ ∀ ys, SqB K l H b ys → ys[i]? = some y,
    fun i H => ∃ xs ys : List V, SqB K k H a xs ∧ SqB K l H b ys ∧ i ≤ xs.length ∧ i ≤ ys.length ∧ (xs.length = i ∨ ys.length = i)⟩
theorem turnB {P : Program} {w : World} {K : PySem.W.Frag} {elts : List Expr} {kk : Nat} {tpos : Pos} {k l : Bool} {a b z TI TO i1 i2 : Addr} (S : ZipSep2 z TI TO i1 i2 [i1, a] [i2, b]) (n1 : a ≠ i1) (n2 : b ≠ i2) :
    Turn P w K (.Tuple elts kk tpos) (ItzB K k l a b) [z, TI, TO, i1, i2] z (fun i h => IsZip h z TI TO .none ∧ IsTupOf2 h TI (.ref i1) (.ref i2) ∧ (∃ x y, IsTupOf2 h TO x y) ∧ ItB k h i1 a i ∧ ItB l h i2 b i) where
  mem := by simp
  obj := fun i h st c hc => by
    obtain ⟨hz, hTI, ⟨x, y, hTO⟩, h1, h2⟩ := st
    have e' : c = z ∨ c = TI ∨ c = TO ∨ c = i1 ∨ c = i2 := by simpa using hc
    rcases e' with rfl | rfl | rfl | rfl | rfl
    · exact ⟨_, hz, fun v q => nomatch q⟩
    · exact ⟨_, hTI, fun v q => nomatch q⟩
    · exact ⟨_, hTO, fun v q => nomatch q⟩
    · exact h1.obj
    · exact h2.obj
  keep := fun i h h' st kp => by
    obtain ⟨hz, hTI, ⟨x, y, hTO⟩, h1, h2⟩ := st
    exact ⟨kp z (by simp) _ hz, kp TI (by simp) _ hTI, ⟨x, y, kp TO (by simp) _ hTO⟩, h1.keep fun o q => kp i1 (by simp) o q, h2.keep fun o q => kp i2 (by simp) o q⟩
  item := by
    intro X hP hw hK hc i pins s σ H E I hf st hg
    subst hP hw hK
    obtain ⟨hz, hTI, ⟨x0, y0, hTO⟩, h1, h2⟩ := st
    obtain ⟨xs, ys, x, y, hqx, hqy, hx, hy⟩ := hg
    obtain ⟨its, rv, p1, _⟩ := readB I hqx
    obtain ⟨its2, rv2, p2, _⟩ := readB I hqy
    obtain ⟨u, hu, ru⟩ := rv.get hx
    obtain ⟨u2, hu2, ru2⟩ := rv2.get hy
    have hzl : z < s.heap.objs.size := Heap.lt_size hz
    have hd1 : X.A.in1.handled = none := I.ok.hd hc
    have q1 : i < its.toArray.size := by rw [List.size_toArray]; exact (List.getElem?_eq_some_iff.mp hu).1
    have q2 : i < its2.toArray.size := by rw [List.size_toArray]; exact (List.getElem?_eq_some_iff.mp hu2).1
    refine wpAny_pyNext_zipD2_item S (drawB (A := X.A.in1) hd1 k i1 a n1 its.toArray) (drawB (A := X.A.in1) hd1 l i2 b n2 its2.toArray) hz hTI hTO ⟨h1, p1⟩ ⟨h2, p2⟩ q1 q2 fun v1 v2 h' tk e1 e2 z' TO' s1' s2' hT hsz hk => ?_
    have v1e : v1 = u := by
      have : its[i]? = some v1 := by simpa using e1
      rw [hu] at this; exact (Option.some.inj this).symm
    have v2e : v2 = u2 := by
      have : its2[i]? = some v2 := by simpa using e2
      rw [hu2] at this; exact (Option.some.inj this).symm
    subst v1e v2e
    refine ⟨_, rfl, wpAny_letOwnedTupleGo_zip (s := { s with heap := h', toks := tk }) z' fun h'' z'' sb => ?_⟩
    have hT2 : h''.get? s.heap.objs.size = some { cls := .type "tuple", data := .seq #[v1, v2] } := (sb.2 _ (Nat.ne_of_gt hzl)).trans hT
    have new : ObjOk X.prog X.w (upd H s.heap.objs.size (.tup [x, y])) h'' s.heap.objs.size (.tup [x, y]) :=
      ⟨by show 2 ≤ sizeLine; decide, [v1, v2], .cons ru (.cons ru2 .nil), ⟨_, hT2, rfl, _, rfl⟩⟩
    have I1 : Inv X pins σ (upd H s.heap.objs.size (.tup [x, y])) { s with heap := h'', toks := tk } :=
      I.turnedNew (t' := tk) (ch := [z, TI, TO, i1, i2]) (fun c o hb q => by
        simp only [List.mem_cons, List.not_mem_nil, or_false, not_or] at hb
        exact (sb.2 c hb.1).trans (hk c o hb.1 hb.2.2.1 hb.2.2.2.1 hb.2.2.2.2 q)) hf (Nat.le_refl _) new
    have ziz : ∀ c, c ≠ z → ∀ o, h'.get? c = some o → h''.get? c = some o := fun c hc o q => (sb.2 c hc).trans q
    refine ⟨.ref s.heap.objs.size, _, I1, rfl, ⟨_, x, y, rfl, I.hok.fresh (Nat.le_refl _), rfl, fun l hl => by rw [injB I hl hqx]; exact hx, fun l hl => by rw [injB I hl hqy]; exact hy⟩,
      ⟨z'', ziz _ S.TIz _ (hk _ _ S.TIz S.TITO S.TIi1 S.TIi2 hTI), ⟨v1, v2, ziz _ S.TOz _ TO'⟩, s1'.1.keep fun o q => ziz _ S.zi1.symm o q, s2'.1.keep fun o q => ziz _ S.zi2.symm o q⟩, fun c hcm => ?_⟩
    have hlt : c < s.heap.objs.size := by
      have e' : c = z ∨ c = TI ∨ c = TO ∨ c = i1 ∨ c = i2 := by simpa using hcm
      rcases e' with rfl | rfl | rfl | rfl | rfl
      · exact hzl
      · exact Heap.lt_size hTI
      · exact Heap.lt_size hTO
      · obtain ⟨_, e1, _⟩ := h1.obj; exact Heap.lt_size e1
      · obtain ⟨_, e1, _⟩ := h2.obj; exact Heap.lt_size e1
    rw [upd_ne (Nat.ne_of_lt hlt)]
    exact (hf c hcm).1
  done := by
    intro X hP hw hK hc i pins s σ H E I hf st hg
    subst hP hw hK
    obtain ⟨hz, hTI, ⟨x0, y0, hTO⟩, h1, h2⟩ := st
    obtain ⟨xs, ys, hqx, hqy, l1, l2, hend⟩ := hg
    obtain ⟨its, rv, p1, _⟩ := readB I hqx
    obtain ⟨its2, rv2, p2, _⟩ := readB I hqy
    have m1 := rv.length
    have m2 := rv2.length
    have hd1 : X.A.in1.handled = none := I.ok.hd hc
    refine wpAny_pyNext_zipD2_end S (drawB (A := X.A.in1) hd1 k i1 a n1 its.toArray) (drawB (A := X.A.in1) hd1 l i2 b n2 its2.toArray) hz hTI hTO ⟨h1, p1⟩ ⟨h2, p2⟩ (by rw [List.size_toArray]; omega) (by rw [List.size_toArray]; omega) ?_ fun h' tk hk => ⟨rfl, I.turnedL (t' := tk) (ch := [z, TI, TO, i1, i2]) (fun c o hb q => ?_) hf⟩
    · rw [List.size_toArray, List.size_toArray, ← m1, ← m2]
      rcases hend with q | q
      · exact .inl q.symm
      · exact .inr q.symm
    · simp only [List.mem_cons, List.not_mem_nil, or_false, not_or] at hb
      exact hk c o hb.1 hb.2.2.1 hb.2.2.2.1 hb.2.2.2.2 q
  self := fun A i s Q E st h => wpAny_pyIter_zip st.1 h
def iZipB (K : PySem.W.Frag) (ta : TA) : TI := fun σ H R => ta σ H fun vs H1 => ∃ (k l : Bool) (a b : Addr) (xs ys : List V), vs = [.ref a, .ref b] ∧ SqB K k H1 a xs ∧ SqB K l H1 b ys ∧ R (ItzB K k l a b) H1
theorem beginsB (k : Bool) (a : Addr) (its : Array Value) : ∃ o, Begins (.ref a) o (fun h => IsB k h a its) ∧ ∀ (h : Heap) (it : Addr), h.get? it = some o → ItB k h it a 0 := by
  cases k with
  | true => exact ⟨_, begins_list a its, fun h it e => ⟨_, e, rfl, rfl⟩⟩
  | false => exact ⟨_, begins_tuple a its, fun h it e => ⟨_, e, rfl, rfl⟩⟩
theorem pi_zipB {X : Cx} {e e2 : Expr} {ta : TA} {p pos tpos : Pos} {elts : List Expr} {kk : Nat} (hg : Gl X "zip") (hm : X.mg "zip" = none) (ha : PA X [e, e2] ta)
    (hs : starEach [e, e2] X.env = (false, eval e X.env) :: starEach [e2] X.env := by rfl) (hpl : (backTo pos (starEach [e2] X.env)).any (·.1) = false := by rfl) :
    PI X (.Tuple elts kk tpos) (.Call (.Name "zip" p) [e, e2] [] pos) (iZipB X.K ta) := by
  refine ⟨fun pins s σ H R I h => ?_⟩
  refine PyProof.Rows.Call_ (ld_blt I hg hm PyProof.Rows.boot_zip (PyProof.Rows.callWith_type1 (thn (ha.run pos pins s σ H _ I h) fun us s1 ⟨vs, H1, I1, r1, q1⟩ => ?_) hs hpl))
  obtain ⟨k, l, a, b, xs, ys, ex, hqx, hqy, q⟩ := q1
  subst ex
  obtain ⟨u1, u2, eu, r', r''⟩ := Vals.two r1
  subst eu
  cases r'
  cases r''
  obtain ⟨its, rv, p1, hla⟩ := readB I1 hqx
  obtain ⟨its2, rv2, p2, hlb⟩ := readB I1 hqy
  obtain ⟨o1, B1, t1⟩ := beginsB k a its.toArray
  obtain ⟨o2, B2, t2⟩ := beginsB l b its2.toArray
  refine zip_begins2 B1 B2 p1 p2 fun h' hz hTI hTO h1 h2 hsz hk => PySem.wpAny_pyIter_zip hz ?_
  have I2 : Inv X pins σ H1 { s1 with heap := h' } := I1.kept (t' := s1.toks) hk
  refine ⟨s1.heap.objs.size + 4, [s1.heap.objs.size + 4, s1.heap.objs.size + 2, s1.heap.objs.size + 3, s1.heap.objs.size, s1.heap.objs.size + 1], _, _, H1, rfl, I2,
    turnB (k := k) (l := l) (a := a) (b := b) (zip_sep2 (N := s1.heap.objs.size) (fp1 := [a]) (fp2 := [b]) (fun c hc => by rw [List.mem_singleton.mp hc]; exact hla) (fun c hc => by rw [List.mem_singleton.mp hc]; exact hlb)) (Nat.ne_of_lt hla) (Nat.ne_of_lt (Nat.lt_succ_of_lt hlb)),
    ⟨hz, hTI, ⟨_, _, hTO⟩, t1 _ _ h1, t2 _ _ h2⟩, fun c hcm => ?_, q⟩
  have hle : s1.heap.objs.size ≤ c := by
    have e' : c = s1.heap.objs.size + 4 ∨ c = s1.heap.objs.size + 2 ∨ c = s1.heap.objs.size + 3 ∨ c = s1.heap.objs.size ∨ c = s1.heap.objs.size + 1 := by simpa using hcm
    rcases e' with z | z | z | z | z <;> (rw [z]; first | exact Nat.le_refl _ | exact Nat.le_add_right _ _)
  exact I1.fpOk hle (I1.hok.fresh hle)
theorem walkB {K : PySem.W.Frag} {k l : Bool} {a b : Addr} {xs ys : List V} {n : Nat} (hn : n = min xs.length ys.length) : Walk (ItzB K k l a b) n (fun H => SqB K k H a xs ∧ SqB K l H b ys) (YPair (fun i => xs[i]?) (fun i => ys[i]?)) := by
  subst hn
  refine ⟨fun i _ hi q => ?_, fun _ q => ⟨xs, ys, q.1, q.2, by omega, by omega, by omega⟩, fun i H v H' _ q y => ?_⟩
  · have h1 : i < xs.length := by omega
    have h2 : i < ys.length := by omega
    exact ⟨xs, ys, xs[i], ys[i], q.1, q.2, by simp [h1], by simp [h2]⟩
  · obtain ⟨T, x, z, h1, h2, h3, h4, h5⟩ := y
    exact ⟨T, x, z, h1, h2, h3, h4 xs q.1, h5 ys q.2⟩
def seqD : Dt → Option (Bool × List Dt)
  | .lst ds => some (true, ds)
  | .tup ds => some (false, ds)
  | _ => none
def zipL (ds es : List Dt) : List Dt := (ds.zip es).map fun p => .tup [p.1, p.2]
def zipO : List Dt → Option (List Dt)
  | [a, b] => match seqD a, seqD b with
    | some (_, x), some (_, y) => some (zipL x y)
    | _, _ => none
  | _ => none
def iZipD (fa : M (List Dt)) : M (List Dt) := mBind fa fun ds => mLift (zipO ds)
theorem seqD_rp {K : PySem.W.Frag} {g : Gh} {d : Dt} {v : V} {k : Bool} {ds : List Dt} (e : seqD d = some (k, ds)) (r : Rp K g d v) : ∃ a xs, v = .ref a ∧ SqB K k g.F a xs ∧ RpL K g ds xs := by
  unfold seqD at e
  split at e
  · cases e
    obtain ⟨a, xs, ev, hx, rx⟩ := r
    exact ⟨a, xs, ev, SqL.of hx, rx⟩
  · cases e
    obtain ⟨a, xs, ev, hx, rx⟩ := r
    exact ⟨a, xs, ev, hx, rx⟩
  · cases e
theorem sqB_mono {K : PySem.W.Frag} {k : Bool} {F F' : Hp} {a : Addr} {xs : List V} (h : ∀ a o, F a = some o → F' a = some o) (q : SqB K k F a xs) : SqB K k F' a xs := by
  cases k with
  | true => exact sqL_mono h q
  | false => exact sqT_mono h q
theorem pair_new {K : PySem.W.Frag} {g : Gh} {H : Hp} {T : Addr} {x y : V} {d e : Dt} (hs : ∀ a o, g.F a = some o → H a = some o) (hT : H T = none) (rx : Rp K g d x) (ry : Rp K g e y) :
    ∃ g2, Grow g H g2 (upd H T (.tup [x, y])) ∧ Rp K g2 (.tup [d, e]) (.ref T) := by
  have G : Grow g H (g.put T (.tup [x, y])) (upd H T (.tup [x, y])) := Grow.one hs hT
  exact ⟨_, G, T, [x, y], rfl, .inl (.inl put_at), rx.mono G.le, ry.mono G.le, trivial⟩
theorem wk_zip {K : PySem.W.Frag} {g : Gh} {k l : Bool} {a b : Addr} {xs ys : List V} {ds es : List Dt} (h1 : SqB K k g.F a xs) (r1 : RpL K g ds xs) (h2 : SqB K l g.F b ys) (r2 : RpL K g es ys) : Wk K g (ItzB K k l a b) (zipL ds es) :=
  ⟨⟨_, _, walkB (xs := xs) (ys := ys) (by unfold zipL; rw [List.length_map, List.length_zip, r1.length, r2.length]), fun g' H le s => ⟨sqB_mono (fun c o q => s _ _ (le.F _ _ q)) h1, sqB_mono (fun c o q => s _ _ (le.F _ _ q)) h2⟩, fun i x H1 H2 g' hi le s y => by
    obtain ⟨T, u, v, rfl, hT, rfl, hu, hv⟩ := y
    obtain ⟨d, hd, q1⟩ := r1.get' hu
    obtain ⟨e, he, q2⟩ := r2.get' hv
    obtain ⟨g2, G, rp⟩ := pair_new s hT (q1.mono le) (q2.mono le)
    refine ⟨.tup [d, e], g2, ?_, G, rp⟩
    unfold zipL
    rw [List.getElem?_map, (List.getElem?_zip_eq_some (z := (d, e))).mpr ⟨hd, he⟩]; rfl⟩⟩
section
variable {X : Cx} {e e2 : Expr} {fa : M (List Dt)} {p pos tpos : Pos} {elts : List Expr} {kk : Nat}
theorem si_zip (hm : X.mg "zip" = none) (ha : SA X [e, e2] fa) (hg : Gl X "zip" := by rfl) (hs : starEach [e, e2] X.env = (false, eval e X.env) :: starEach [e2] X.env := by rfl) (hpl : (backTo pos (starEach [e2] X.env)).any (·.1) = false := by rfl) :
    SI X (.Tuple elts kk tpos) (.Call (.Name "zip" p) [e, e2] [] pos) (iZipD fa) :=
  pi_weak (pi_zipB hg hm ha hs hpl) fun σ H Q ⟨B, g, ρ, w, ds, ρ', w', R, e, q⟩ => by
    obtain ⟨ds, ρ1, w1, e1, e2⟩ := mBind_some e
    obtain ⟨h5, rfl, rfl⟩ := mLift_some e2
    unfold zipO at h5
    split at h5
    · rename_i a b
      split at h5
      · rename_i k x l y ha' hb'
        cases h5
        refine ⟨B, g, ρ, w, _, _, _, R, e1, fun vs g1 H1 R1 l1 r1 => ?_⟩
        cases vs with
        | nil => exact r1.elim
        | cons v vs => cases vs with
          | nil => exact r1.2.elim
          | cons u us => cases us with
            | cons _ _ => exact r1.2.2.elim
            | nil =>
              obtain ⟨p1, xs, rfl, hx, rx⟩ := seqD_rp ha' r1.1
              obtain ⟨p2, ys, rfl, hy, ry⟩ := seqD_rp hb' r1.2.1
              exact ⟨k, l, p1, p2, xs, ys, rfl, sqB_mono R1.sub hx, sqB_mono R1.sub hy, q _ g1 H1 R1 l1 (wk_zip hx rx hy ry)⟩
      · cases h5
    · cases h5
/-! reversed, enumerate -/
def asL : Dt → Option (List Dt)
  | .lst ds => some ds
  | _ => none
theorem asL_rp {K : PySem.W.Frag} {g : Gh} {d : Dt} {v : V} {ds : List Dt} (e : asL d = some ds) (r : Rp K g d v) : ∃ a xs, v = .ref a ∧ g.F a = some (.lst xs) ∧ RpL K g ds xs := by
  unfold asL at e
  split at e
  · cases e; exact r
  · cases e
def iRevD (f : M Dt) : M (List Dt) := mBind f fun d => mLift ((asL d).map List.reverse)
theorem wk_rev {K : PySem.W.Frag} {g : Gh} {a : Addr} {xs : List V} {ds : List Dt} (h : g.F a = some (.lst xs)) (r : RpL K g ds xs) : Wk K g (Itv K a xs.length) ds.reverse :=
  ⟨⟨_, _, by rw [List.length_reverse, r.length]; exact walk_rev (K := K) (a := a) (xs := xs), fun g' H l s => SqL.of (s _ _ (l.F _ _ h)), fun i x H1 H2 g' hi l s y => by
    obtain ⟨rfl, hx⟩ := y
    obtain ⟨d, hd, q⟩ := r.get' hx
    rw [List.length_reverse] at hi
    refine ⟨d, g', ?_, .refl _ _, q.mono l⟩
    rw [List.getElem?_reverse hi, r.length]; exact hd⟩⟩
theorem si_rev {tg : Expr} {f : M Dt} (hm : X.mg "reversed" = none) (h : SE X e f) (hg : Gl X "reversed" := by rfl) (hs : starEach [e] X.env = [(false, eval e X.env)] := by rfl) (hs2 : starEach [e] X.env = (false, eval e X.env) :: starEach [] X.env := by rfl) : SI X tg (.Call (.Name "reversed" p) [e] [] pos) (iRevD f) :=
  pi_weak (pi_reversed hg hm (sa_cons h sa_nil hs2) hs) fun σ H Q ⟨B, g, ρ, w, ds, ρ', w', R, e, q⟩ => by
    obtain ⟨d, ρ1, w1, e1, e2⟩ := mBind_some e
    obtain ⟨h5, rfl, rfl⟩ := mLift_some e2
    obtain ⟨es, he, e3⟩ := Option.map_eq_some_iff.mp h5
    subst e3
    refine ⟨B, g, ρ, w, [d], _, _, R, by unfold aCons; unfold mBind; rw [e1]; rfl, fun vs g1 H1 R1 l1 r1 => ?_⟩
    cases vs with
    | nil => exact r1.elim
    | cons v vs => cases vs with
      | cons _ _ => exact r1.2.elim
      | nil =>
        obtain ⟨a, xs, rfl, hx, rx⟩ := asL_rp he r1.1
        exact ⟨a, xs, rfl, SqL.of (R1.sub _ _ hx), q _ g1 H1 R1 l1 (wk_rev hx rx)⟩
def enumL (ds : List Dt) : List Dt := (ds.zipIdx).map fun p => .tup [.int (p.2 : Nat), p.1]
def iEnumD (f : M Dt) : M (List Dt) := mBind f fun d => mLift ((asL d).map enumL)
theorem wk_enum {K : PySem.W.Frag} {g : Gh} {a : Addr} {xs : List V} {ds : List Dt} (h : g.F a = some (.lst xs)) (r : RpL K g ds xs) : Wk K g (Ite K a) (enumL ds) :=
  ⟨⟨_, _, by
      have e : (enumL ds).length = xs.length := by unfold enumL; simp [r.length]
      rw [e]; exact walk_enum (K := K) (a := a) (xs := xs), fun g' H l s => SqL.of (s _ _ (l.F _ _ h)), fun i x H1 H2 g' hi l s y => by
    obtain ⟨T, u, v, rfl, hT, rfl, hu, hv⟩ := y
    have hu' : u = V.int (i : Nat) := (Option.some.inj hu).symm
    subst hu'
    obtain ⟨d, hd, q⟩ := r.get' hv
    obtain ⟨g2, G, rp⟩ := pair_new (d := .int (i : Nat)) (x := V.int (i : Nat)) s hT rfl (q.mono l)
    refine ⟨.tup [.int (i : Nat), d], g2, ?_, G, rp⟩
    unfold enumL
    rw [List.getElem?_map, List.getElem?_zipIdx, hd]
    simp⟩⟩
theorem si_enum {f : M Dt} (hm : X.mg "enumerate" = none) (h : SE X e f) (hg : Gl X "enumerate" := by rfl) (hs : starEach [e] X.env = [(false, eval e X.env)] := by rfl) (hs2 : starEach [e] X.env = (false, eval e X.env) :: starEach [] X.env := by rfl) : SI X (.Tuple elts kk tpos) (.Call (.Name "enumerate" p) [e] [] pos) (iEnumD f) :=
  pi_weak (pi_enum hg hm (sa_cons h sa_nil hs2) hs) fun σ H Q ⟨B, g, ρ, w, ds, ρ', w', R, e, q⟩ => by
    obtain ⟨d, ρ1, w1, e1, e2⟩ := mBind_some e
    obtain ⟨h5, rfl, rfl⟩ := mLift_some e2
    obtain ⟨es, he, e3⟩ := Option.map_eq_some_iff.mp h5
    subst e3
    refine ⟨B, g, ρ, w, [d], _, _, R, by unfold aCons; unfold mBind; rw [e1]; rfl, fun vs g1 H1 R1 l1 r1 => ?_⟩
    cases vs with
    | nil => exact r1.elim
    | cons v vs => cases vs with
      | cons _ _ => exact r1.2.elim
      | nil =>
        obtain ⟨a, xs, rfl, hx, rx⟩ := asL_rp he r1.1
        exact ⟨a, xs, rfl, SqL.of (R1.sub _ _ hx), q _ g1 H1 R1 l1 (wk_enum hx rx)⟩
end
end Lw

end
section
set_option Elab.async false
set_option linter.all false
set_option maxRecDepth 100000
set_option maxHeartbeats 2000000
namespace Lw
open PySem PySem.Spec L2
open PyProof.Rows (envOfC)
section
variable {X : Cx} {pos : Pos} {a b : Expr} {rest : List Expr}
def oNeg : Dt → Option Dt
  | .int i => some (.int (-i))
  | _ => none
theorem se_neg {fa : M RV} (ha : SR X a fa) : SE X (.UnaryOp .USub a pos) (fOp1 oNeg fa) :=
  pe_weak (pe_un un_neg ha) fun σ H Q ⟨B, g, ρ, w, d, ρ', w', R, e, k⟩ => by
    obtain ⟨ra, ρ1, w1, e1, f1⟩ := mBind_some e
    obtain ⟨da, ρ2, w2, e2, f2⟩ := mBind_some f1
    obtain ⟨h2, rfl, rfl⟩ := mRd_some e2
    obtain ⟨h3, rfl, rfl⟩ := mLift_some f2
    refine ⟨B, g, ρ, w, ra, _, _, R, e1, fun x g1 H1 R1 l1 q1 => ?_⟩
    have v := R1.view q1 h2
    unfold oNeg at h3
    split at h3
    · cases h3; cases v
      exact ⟨_, rfl, k _ g1 H1 R1 l1 rfl⟩
    · cases h3
def fAndV (f k : M Dt) : M Dt := mBind (cB f) fun b => if b then k else mRet (.bl false)
def fOrV (f k : M Dt) : M Dt := mBind (cB f) fun b => if b then mRet (.bl true) else k
def fNotV (f : M Dt) : M Dt := mBind (cB f) fun b => mRet (.bl !b)
theorem cB_read {K : PySem.W.Frag} {f : M Dt} {k : Bool → M Dt} {σ : L2.St} {H : Hp} {Q : VK} (h : tE K (mBind (cB f) k) σ H Q) : tE K f σ H fun x H1 => ∃ c, x = .bl c ∧ tE K (k c) σ H1 Q := by
  obtain ⟨B, g, ρ, w, d, ρ', w', R, e, q⟩ := h
  obtain ⟨x, ρ1, w1, e1, e2⟩ := mBind_some e
  obtain ⟨y, ρ2, w2, e3, e4⟩ := mBind_some e1
  obtain ⟨h5, rfl, rfl⟩ := mLift_some e4
  rw [asB_some h5] at e3
  exact ⟨B, g, ρ, w, _, _, _, R, e3, fun v g1 H1 R1 l1 r1 => ⟨x, r1, B, g1, _, _, d, ρ', w', R1, e2, fun v' g' H' R' l rp => q v' g' H' R' (l1.trans l) rp⟩⟩
theorem tE_bl {K : PySem.W.Frag} {c : Bool} {σ : L2.St} {H : Hp} {Q : VK} (h : tE K (mRet (.bl c)) σ H Q) : Q (.bl c) H := by
  obtain ⟨B, g, ρ, w, d, ρ', w', R, e, q⟩ := h
  cases e
  exact q _ g H R (.refl g) rfl
theorem tE_mono {K : PySem.W.Frag} {f : M Dt} {σ : L2.St} {H : Hp} {Q Q' : VK} (h : tE K f σ H Q) (k : ∀ v H, Q v H → Q' v H) : tE K f σ H Q' := by
  obtain ⟨B, g, ρ, w, d, ρ', w', R, e, q⟩ := h
  exact ⟨B, g, ρ, w, d, ρ', w', R, e, fun v g' H' R' l r => k _ _ (q v g' H' R' l r)⟩
theorem se_one {op : BoolOp} {f : M Dt} (h : SE X a f) : SE X (.BoolOp op [a] pos) f := pe_one h
theorem se_and {f k : M Dt} (ha : SE X a f) (hb : SE X (.BoolOp .And (b :: rest) pos) k) : SE X (.BoolOp .And (a :: b :: rest) pos) (fAndV f k) :=
  pe_weak (pe_and ha hb) fun σ H Q h => tE_mono (cB_read h) fun v H1 ⟨c, ev, q⟩ => ⟨c, ev, by
    cases c with
    | true => exact q
    | false => exact tE_bl q⟩
theorem se_or {f k : M Dt} (ha : SE X a f) (hb : SE X (.BoolOp .Or (b :: rest) pos) k) : SE X (.BoolOp .Or (a :: b :: rest) pos) (fOrV f k) :=
  pe_weak (pe_or ha hb) fun σ H Q h => tE_mono (cB_read h) fun v H1 ⟨c, ev, q⟩ => ⟨c, ev, by
    cases c with
    | true => exact tE_bl q
    | false => exact q⟩
theorem se_not {f : M Dt} (ha : SE X a f) : SE X (.UnaryOp .Not a pos) (fNotV f) :=
  pe_weak (pe_not ha) fun σ H Q h => tE_mono (cB_read h) fun v H1 ⟨c, ev, q⟩ => ⟨c, ev, tE_bl q⟩
/-! a, b = e; a, b = [..], e -/
def fAsgT (ft : FT) (f : M Dt) : M Fl := mBind f fun d ρ w => match ft d ρ with
  | some ρ1 => some (.nx, ρ1, w)
  | none => none
theorem ss_asgT {tg e : Expr} {g : TG} {ft : FT} {ix : List Nat} {f : M Dt} (he : SE X e f) (hg : PG X tg g) (hgo : TGok X.K g ft ix) (hs : swapsWithSole [tg] e pos.line X.env = pure false := by rfl) (hw : swappedStores [tg] e X.env = pure none := by rfl)
    (h1 : (assignEach [tg] X.env).map (·.2) = [assign tg X.env] := by rfl) : SS X (.Assign [tg] e pos) (fAsgT ft f) :=
  ps_weak (ps_asg he hg hs hw h1) fun D σ H ⟨B, g0, ρ, w, r, ρ', w', R, e, q⟩ => by
    obtain ⟨d, ρ1, w1, e1, e2⟩ := mBind_some e
    refine ⟨B, g0, ρ, w, d, ρ1, w1, R, e1, fun v g1 H1 R1 l1 r1 => ?_⟩
    cases h : ft d ρ1 with
    | none => simp only [h] at e2; cases e2
    | some ρ2 =>
      simp only [h] at e2
      cases e2
      exact hgo B g1 H1 σ ρ1 _ d v _ _ R1 r1 h fun σ' R' _ => q σ' g1 H1 R' l1
def fParM (i j : Nat) (f : M (List Dt)) (k : M Dt) : M Fl := mBind f fun ds => mBind k fun d ρ w => some (.nx, (ρ.set i (some (.owL ds))).set j (some (.fr d)), w)
theorem ss_parN (i j : Nat) {x y : Str} {f : M (List Dt)} {k : M Dt} {px py pt : Pos} {kt k2 pt2} (ha : SN X a f) (hb : SE X b k) (hN : X.N.Nodup) (hc : X.calm = true := by rfl) (hi : X.N[i]? = some x := by rfl) (hj : X.N[j]? = some y := by rfl) (hij : i ≠ j := by decide)
    (hx : X.env.scope.names.lookup x = some .local := by rfl) (hy : X.env.scope.names.lookup y = some .local := by rfl) (h1 : starEach [a, b] X.env = (false, eval a X.env) :: starEach [b] X.env := by rfl) (h2 : starEach [b] X.env = (false, eval b X.env) :: starEach [] X.env := by rfl)
    (hw : swappedStores [.Tuple [.Name x px, .Name y py] kt pt] (.Tuple [a, b] k2 pt2) X.env = pure (some [x, y]) := by rfl)
    (hs : swapsWithSole [.Tuple [.Name x px, .Name y py] kt pt] (.Tuple [a, b] k2 pt2) pos.line X.env = pure false := by rfl) :
    SS X (.Assign [.Tuple [.Name x px, .Name y py] kt pt] (.Tuple [a, b] k2 pt2) pos) (fParM i j f k) :=
  ps_weak (ps_par hc hN hi hj hij hx hy (pa_cons ha (pa_cons hb pa_nil h2) h1) hw hs) fun D σ H ⟨B, g, ρ, w, r, ρ', w', R, e, q⟩ => by
    obtain ⟨ds, ρ1, w1, e1, e2⟩ := mBind_some e
    obtain ⟨d, ρ2, w2, e3, e4⟩ := mBind_some e2
    cases e4
    refine ⟨B, g, ρ, w, ds, ρ1, w1, R, e1, fun p xs g1 H1 R1 l1 hx1 rx o ne => ?_⟩
    refine ⟨B.pin p (.lst xs), g1, ρ1, w1, d, ρ2, _, R1.pin hx1 o ne, e3, fun v g2 H2 R2 l2 r2 => ⟨_, _, rfl, ?_⟩⟩
    obtain ⟨hF, _, hS⟩ := R2.hid p (.inr rfl)
    have R3 := R2.unpin o.Fr
    have hx2 : H2 p = some (.lst xs) := R2.keep p _ (by show upd B.Fr p (.lst xs) p = _; exact upd_same)
    have o2 : OwnA B g2 p := ⟨hF, o.Fr, o.H0, o.hid, hS⟩
    have ne2 : ∀ m, owAt ρ2 m → g2.ad m ≠ p := fun m ⟨s, es, os⟩ z => by
      obtain ⟨_, ow, _⟩ := R2.owned es os
      exact ow.hid (.inr z)
    have R4 := R3.setOw (i := i) (t := .owL ds) o2 ne2 ⟨by show some (V.ref p) = some (V.ref (if i = i then p else g2.ad i)); rw [if_pos rfl], by show OwnA B _ (if i = i then p else g2.ad i); rw [if_pos rfl]; exact o2.ad, xs,
      by show H2 (if i = i then p else g2.ad i) = _; rw [if_pos rfl]; exact hx2, RpL.mono Gle.ad (rx.mono l2)⟩
    refine q _ { g2 with ad := fun m => if m = i then p else g2.ad m } H2 (R4.set (rp_ad r2)) ?_
    exact (l1.trans l2).trans Gle.ad
/-! repr of what is no container -/
def cRepr : List Dt → Option Dt
  | [.bl b] => some (.str (if b then "True" else "False"))
  | [.non] => some (.str "None")
  | [.int i] => if decide (i.natAbs.log2 < 1920) then some (.str (toString i)) else none
  | _ => none
def rReprF : List V → Hp → VK → Prop := fun xs H Q => (∃ b : Bool, xs = [.bl b] ∧ Q (.str (if b then "True" else "False")) H) ∨ (xs = [.non] ∧ Q (.str "None") H) ∨ ∃ i : Int, xs = [.int i] ∧ i.natAbs.log2 < 1920 ∧ Q (.str (toString i)) H
theorem call_reprF : CallR X (.builtin "repr") rReprF := by
  intro pins s σ H vs us Q I r h
  rcases h with ⟨b, rfl, q⟩ | ⟨rfl, q⟩ | ⟨i, rfl, hz, q⟩
  · obtain ⟨u, rfl, r1⟩ := Vals.one r
    cases r1
    exact PySem.P.repr_of_bool ⟨.str _, H, I.tok _, ⟨_, rfl⟩, q⟩
  · obtain ⟨u, rfl, r1⟩ := Vals.one r
    cases r1
    exact PySem.P.repr_of_none ⟨.str _, H, I.tok _, ⟨_, rfl⟩, q⟩
  · obtain ⟨u, rfl, r1⟩ := Vals.one r
    obtain ⟨t, rfl⟩ := r1
    exact PySem.P.repr_of_int hz ⟨.str _, H, I.tok _, ⟨_, rfl⟩, q⟩
theorem n_repr {K : PySem.W.Frag} : OpN K rReprF cRepr := fun g H xs ds d Q hs r e k => by
  unfold cRepr at e
  split at e
  · cases e
    obtain ⟨v, rfl, ev⟩ := r.one
    cases ev
    exact .inl ⟨_, rfl, k.str⟩
  · cases e
    obtain ⟨v, rfl, ev⟩ := r.one
    cases ev
    exact .inr (.inl ⟨rfl, k.str⟩)
  · obtain ⟨h1, e⟩ := ite_some e
    cases e
    obtain ⟨v, rfl, ev⟩ := r.one
    cases ev
    exact .inr (.inr ⟨_, rfl, of_decide_eq_true h1, k.str⟩)
  · cases e
end
end Lw

end
section
set_option Elab.async false
set_option linter.all false
set_option maxRecDepth 100000
set_option maxHeartbeats 2000000
namespace Lw
open PySem PySem.Spec L2
open PyProof.Rows (envOfC)

/-! ### several names at once, some of them with new lists of their own -/
def Pend (K : PySem.W.Frag) (B' : Bs) (g : Gh) (H : Hp) : Bs → List Sl → List V → Prop
  | B, [], [] => B' = B
  | B, .fr d :: ss, v :: vs => Rp K g d v ∧ Pend K B' g H B ss vs
  | B, .owL ds :: ss, v :: vs => ∃ p xs, v = .ref p ∧ OwnA B g p ∧ H p = some (.lst xs) ∧ RpL K g ds xs ∧ Pend K B' g H (B.pin p (.lst xs)) ss vs
  | B, .owK ks ds :: ss, v :: vs => ∃ p kv, v = .ref p ∧ OwnA B g p ∧ H p = some (.dK kv) ∧ (kv.map (·.1) = ks ∧ RpL K g ds (kv.map (·.2))) ∧ Pend K B' g H (B.pin p (.dK kv)) ss vs
  | _, _, _ => False
def tAM (K : PySem.W.Frag) (f : M (List Sl)) : TA := fun σ H Q => ∃ B g ρ w ss ρ' w', Rel K B g H σ ρ w ∧ f ρ w = some (ss, ρ', w') ∧
  ∀ vs B' g' H', Rel K B' g' H' σ ρ' w' → Gle g g' → Pend K B' g' H' B ss vs → Q vs H'
abbrev SAM (X : Cx) (es : List Expr) (f : M (List Sl)) : Prop := PA X es (tAM X.K f)
def amF (f : M Dt) (k : M (List Sl)) : M (List Sl) := mBind f fun d => mBind k fun ss => mRet (.fr d :: ss)
def amN (f : M (List Dt)) (k : M (List Sl)) : M (List Sl) := mBind f fun d => mBind k fun ss => mRet (.owL d :: ss)
section
variable {K : PySem.W.Frag} {B' : Bs} {g : Gh} {H : Hp}
theorem Pend.up : ∀ {ss : List Sl} {vs : List V} {B : Bs}, Pend K B' g H B ss vs → (∀ a, B.hid a → B'.hid a) ∧ ∀ a o, B.Fr a = some o → B'.Fr a = some o
  | [], [], B, h => by
    have h' : B' = B := h
    subst h'
    exact ⟨fun _ q => q, fun _ _ q => q⟩
  | .fr d :: ss, v :: vs, B, h => h.2.up
  | .owL ds :: ss, v :: vs, B, ⟨p, xs, _, o, _, _, h⟩ => by
    obtain ⟨h1, h2⟩ := h.up
    refine ⟨fun a q => h1 a (.inl q), fun a u q => h2 a u ?_⟩
    show upd B.Fr p (.lst xs) a = some u
    rw [upd_ne fun z => by rw [z, o.Fr] at q; cases q]; exact q
  | .owK ks ds :: ss, v :: vs, B, ⟨p, kv, _, o, _, _, h⟩ => by
    obtain ⟨h1, h2⟩ := h.up
    refine ⟨fun a q => h1 a (.inl q), fun a u q => h2 a u ?_⟩
    show upd B.Fr p (.dK kv) a = some u
    rw [upd_ne fun z => by rw [z, o.Fr] at q; cases q]; exact q
  | .owX _ _ :: _, _, _, h => by cases ‹List V› <;> exact h.elim
  | [], _ :: _, _, h => h.elim
  | .fr _ :: _, [], _, h => h.elim
  | .owL _ :: _, [], _, h => h.elim
  | .owK _ _ :: _, [], _, h => h.elim
def setV : List Nat → List V → St → St
  | i :: is, v :: vs, σ => (setV is vs σ).set i (some v)
  | _, _, σ => σ
def setS : List Nat → List Sl → En → En
  | i :: is, s :: ss, ρ => (setS is ss ρ).set i (some s)
  | _, _, ρ => ρ
theorem pend_set {σ : L2.St} {ρ : En} {w : Wd} : ∀ {is : List Nat} {ss : List Sl} {vs : List V} {B : Bs}, is.length = ss.length → Pend K B' g H B ss vs → Rel K B' g H σ ρ w → ∃ g', Gle g g' ∧ Rel K B g' H (setV is vs σ) (setS is ss ρ) w
  | [], [], [], B, _, h, R => by
    have h' : B' = B := h
    subst h'
    exact ⟨g, .refl g, R⟩
  | i :: is, .fr d :: ss, v :: vs, B, hl, h, R => by
    obtain ⟨g1, l1, R1⟩ := pend_set (is := is) (by simpa using hl) h.2 R
    exact ⟨g1, l1, R1.set (h.1.mono l1)⟩
  | i :: is, .owL ds :: ss, v :: vs, B, hl, ⟨p, xs, ev, o, hp, rx, h⟩, R => by
    subst ev
    obtain ⟨g1, l1, R1⟩ := pend_set (is := is) (by simpa using hl) h R
    obtain ⟨hF, _, hS⟩ := R1.hid p (.inr rfl)
    have R2 := R1.unpin o.Fr
    have o2 : OwnA B g1 p := ⟨hF, o.Fr, o.H0, o.hid, hS⟩
    have ne : ∀ m, owAt (setS is ss ρ) m → g1.ad m ≠ p := fun m ⟨s, es, os⟩ z => by
      obtain ⟨_, ow, _⟩ := R1.owned es os
      exact ow.hid (.inr z)
    refine ⟨_, l1.trans Gle.ad, R2.setOw (i := i) (t := .owL ds) o2 ne ⟨?_, ?_, xs, ?_, RpL.mono Gle.ad (rx.mono l1)⟩⟩
    · show some (V.ref p) = some (V.ref (if i = i then p else g1.ad i)); rw [if_pos rfl]
    · show OwnA B _ (if i = i then p else g1.ad i); rw [if_pos rfl]; exact o2.ad
    · show H (if i = i then p else g1.ad i) = _; rw [if_pos rfl]; exact hp
  | i :: is, .owK ks ds :: ss, v :: vs, B, hl, ⟨p, kv, ev, o, hp, ⟨hk, rx⟩, h⟩, R => by
    subst ev
    obtain ⟨g1, l1, R1⟩ := pend_set (is := is) (by simpa using hl) h R
    obtain ⟨hF, _, hS⟩ := R1.hid p (.inr rfl)
    have R2 := R1.unpin o.Fr
    have o2 : OwnA B g1 p := ⟨hF, o.Fr, o.H0, o.hid, hS⟩
    have ne : ∀ m, owAt (setS is ss ρ) m → g1.ad m ≠ p := fun m ⟨s, es, os⟩ z => by
      obtain ⟨_, ow, _⟩ := R1.owned es os
      exact ow.hid (.inr z)
    refine ⟨_, l1.trans Gle.ad, R2.setOw (i := i) (t := .owK ks ds) o2 ne ⟨?_, ?_, kv, ?_, hk, RpL.mono Gle.ad (rx.mono l1)⟩⟩
    · show some (V.ref p) = some (V.ref (if i = i then p else g1.ad i)); rw [if_pos rfl]
    · show OwnA B _ (if i = i then p else g1.ad i); rw [if_pos rfl]; exact o2.ad
    · show H (if i = i then p else g1.ad i) = _; rw [if_pos rfl]; exact hp
  | _ :: _, .owX _ _ :: _, vs, _, _, h, _ => by cases vs <;> exact h.elim
  | _, [], _ :: _, _, _, h, _ => h.elim
  | _, .fr _ :: _, [], _, _, h, _ => h.elim
  | _, .owL _ :: _, [], _, _, h, _ => h.elim
  | _, .owK _ _ :: _, [], _, _, h, _ => h.elim
  | [], _ :: _, _, _, hl, _, _ => by cases hl
  | _ :: _, [], _, _, hl, _, _ => by cases hl
end
section
variable {X : Cx} {pos : Pos} {e : Expr} {es : List Expr}
theorem sam_nil : SAM X [] (mRet []) := pa_weak pa_nil fun σ H Q ⟨B, g, ρ, w, d, ρ', w', R, e, k⟩ => by
  cases e; exact k [] B g H R (.refl g) rfl
theorem sam_f {f : M Dt} {k : M (List Sl)} (h : SE X e f) (hk : SAM X es k) (hs : starEach (e :: es) X.env = (false, eval e X.env) :: starEach es X.env := by rfl) : SAM X (e :: es) (amF f k) :=
  pa_weak (pa_cons h hk hs) fun σ H Q ⟨B, g, ρ, w, d, ρ', w', R, e, q⟩ => by
    obtain ⟨x, ρ1, w1, e1, f1⟩ := mBind_some e
    obtain ⟨ss, ρ2, w2, e2, f2⟩ := mBind_some f1
    cases f2
    refine ⟨B, g, ρ, w, x, ρ1, w1, R, e1, fun v g1 H1 R1 l1 r1 => ⟨B, g1, ρ1, w1, ss, _, _, R1, e2, fun vs B' g2 H2 R2 l2 p2 => ?_⟩⟩
    exact q (v :: vs) B' g2 H2 R2 (l1.trans l2) ⟨r1.mono l2, p2⟩
theorem sam_n {f : M (List Dt)} {k : M (List Sl)} (h : SN X e f) (hk : SAM X es k) (hs : starEach (e :: es) X.env = (false, eval e X.env) :: starEach es X.env := by rfl) : SAM X (e :: es) (amN f k) :=
  pa_weak (pa_cons h hk hs) fun σ H Q ⟨B, g, ρ, w, d, ρ', w', R, e, q⟩ => by
    obtain ⟨x, ρ1, w1, e1, f1⟩ := mBind_some e
    obtain ⟨ss, ρ2, w2, e2, f2⟩ := mBind_some f1
    cases f2
    refine ⟨B, g, ρ, w, x, ρ1, w1, R, e1, fun p xs g1 H1 R1 l1 hx rx o ne => ⟨B.pin p (.lst xs), g1, ρ1, w1, ss, _, _, R1.pin hx o ne, e2, fun vs B' g2 H2 R2 l2 p2 => ?_⟩⟩
    obtain ⟨u1, u2⟩ := p2.up
    obtain ⟨hF, _, hS⟩ := R2.hid p (u1 p (.inr rfl))
    have hx2 : H2 p = some (.lst xs) := R2.keep p _ (u2 p _ (by show upd B.Fr p (.lst xs) p = _; exact upd_same))
    exact q (.ref p :: vs) B' g2 H2 R2 (l1.trans l2) ⟨p, xs, rfl, ⟨hF, o.Fr, o.H0, o.hid, hS⟩, hx2, rx.mono l2, p2⟩
def fParS (is : List Nat) (f : M (List Sl)) : M Fl := mBind f fun ss ρ w => if ss.length == is.length then some (.nx, setS is ss ρ, w) else none
theorem parS_read {K : PySem.W.Frag} {is : List Nat} {f : M (List Sl)} {D : Ends} {σ : L2.St} {H : Hp} (h : tS K (fParS is f) D σ H) : tAM K f σ H fun vs H1 => vs.length = is.length ∧ D.nx (setV is vs σ) H1 := by
  obtain ⟨B, g, ρ, w, r, ρ', w', R, e, q⟩ := h
  obtain ⟨ss, ρ1, w1, e1, e2⟩ := mBind_some e
  obtain ⟨hl, e2⟩ := ite_some e2
  cases e2
  refine ⟨B, g, ρ, w, ss, ρ1, _, R, e1, fun vs B' g1 H1 R1 l1 p1 => ?_⟩
  have hl' : is.length = ss.length := (beq_iff_eq.mp hl).symm
  obtain ⟨g2, l2, R2⟩ := pend_set hl' p1 R1
  refine ⟨?_, q _ g2 H1 R2 (l1.trans l2)⟩
  have len : ∀ {ss : List Sl} {vs : List V} {B : Bs}, Pend K B' g1 H1 B ss vs → vs.length = ss.length := by
    intro ss
    induction ss with
    | nil => intro vs B h; cases vs with
      | nil => rfl
      | cons _ _ => exact h.elim
    | cons s ss ih =>
      intro vs B h
      cases vs with
      | nil => cases s <;> exact h.elim
      | cons v vs => cases s with
        | fr d => exact congrArg (· + 1) (ih h.2)
        | owL ds => obtain ⟨_, _, _, _, _, _, h⟩ := h; exact congrArg (· + 1) (ih h)
        | owK _ _ => obtain ⟨_, _, _, _, _, _, h⟩ := h; exact congrArg (· + 1) (ih h)
        | owX _ _ => exact h.elim
  rw [len p1, ← hl']
theorem ss_par2 (i j : Nat) {x y : Str} {a b : Expr} {f : M (List Sl)} {px py pt : Pos} {kt k2 pt2} (ha : SAM X [a, b] f) (hN : X.N.Nodup) (hc : X.calm = true := by rfl) (hi : X.N[i]? = some x := by rfl) (hj : X.N[j]? = some y := by rfl) (hij : i ≠ j := by decide)
    (hx : X.env.scope.names.lookup x = some .local := by rfl) (hy : X.env.scope.names.lookup y = some .local := by rfl)
    (hw : swappedStores [.Tuple [.Name x px, .Name y py] kt pt] (.Tuple [a, b] k2 pt2) X.env = pure (some [x, y]) := by rfl)
    (hs : swapsWithSole [.Tuple [.Name x px, .Name y py] kt pt] (.Tuple [a, b] k2 pt2) pos.line X.env = pure false := by rfl) :
    SS X (.Assign [.Tuple [.Name x px, .Name y py] kt pt] (.Tuple [a, b] k2 pt2) pos) (fParS [i, j] f) :=
  ps_weak (ps_par hc hN hi hj hij hx hy ha hw hs) fun D σ H h => by
    obtain ⟨B, g, ρ, w, ss, ρ', w', R, e, q⟩ := parS_read h
    refine ⟨B, g, ρ, w, ss, ρ', w', R, e, fun vs B' g' H' R' l p => ?_⟩
    obtain ⟨hl, qn⟩ := q vs B' g' H' R' l p
    match vs, hl, qn with
    | [u, v], _, qn =>
      refine ⟨u, v, rfl, ?_⟩
      have qn' : D.nx ((σ.set j (some v)).set i (some u)) H' := qn
      rw [List.set_comm _ _ hij.symm] at qn'
      exact qn'
theorem ss_par3 (i j k : Nat) {x y z : Str} {a b c : Expr} {f : M (List Sl)} {px py pz pt : Pos} {kt k2 pt2} (ha : SAM X [a, b, c] f) (hN : X.N.Nodup) (hc : X.calm = true := by rfl) (hi : X.N[i]? = some x := by rfl) (hj : X.N[j]? = some y := by rfl) (hk : X.N[k]? = some z := by rfl) (hij : i ≠ j := by decide) (hik : i ≠ k := by decide) (hjk : j ≠ k := by decide)
    (hx : X.env.scope.names.lookup x = some .local := by rfl) (hy : X.env.scope.names.lookup y = some .local := by rfl) (hz : X.env.scope.names.lookup z = some .local := by rfl)
    (hw : swappedStores [.Tuple [.Name x px, .Name y py, .Name z pz] kt pt] (.Tuple [a, b, c] k2 pt2) X.env = pure (some [x, y, z]) := by rfl)
    (hs : swapsWithSole [.Tuple [.Name x px, .Name y py, .Name z pz] kt pt] (.Tuple [a, b, c] k2 pt2) pos.line X.env = pure false := by rfl) :
    SS X (.Assign [.Tuple [.Name x px, .Name y py, .Name z pz] kt pt] (.Tuple [a, b, c] k2 pt2) pos) (fParS [i, j, k] f) :=
  ps_weak (ps_par3 hc hN hi hj hk hij hik hjk hx hy hz ha hw hs) fun D σ H h => by
    obtain ⟨B, g, ρ, w, ss, ρ', w', R, e, q⟩ := parS_read h
    refine ⟨B, g, ρ, w, ss, ρ', w', R, e, fun vs B' g' H' R' l p => ?_⟩
    obtain ⟨hl, qn⟩ := q vs B' g' H' R' l p
    match vs, hl, qn with
    | [u, v, t], _, qn =>
      refine ⟨u, v, t, rfl, ?_⟩
      have qn' : D.nx (((σ.set k (some t)).set j (some v)).set i (some u)) H' := qn
      rw [List.set_comm _ _ hij.symm, List.set_comm _ _ hik.symm, List.set_comm _ _ hjk.symm] at qn'
      exact qn'
/-! where a name is a cell the tuple is made -/
theorem Pend.lay {K : PySem.W.Frag} {B' : Bs} {g : Gh} {H : Hp} {q : Addr} {o : HO} (hq : H q = none) : ∀ {ss : List Sl} {vs : List V} {B : Bs}, Pend K B' g H B ss vs → Pend K B' g (upd H q o) B ss vs
  | [], [], _, h => h
  | .fr d :: ss, v :: vs, _, h => ⟨h.1, h.2.lay hq⟩
  | .owL ds :: ss, v :: vs, _, ⟨p, xs, e, ow, hp, rx, h⟩ => ⟨p, xs, e, ow, by rw [upd_ne (ne_of_none hp hq)]; exact hp, rx, h.lay hq⟩
  | .owK ks ds :: ss, v :: vs, _, ⟨p, xs, e, ow, hp, rx, h⟩ => ⟨p, xs, e, ow, by rw [upd_ne (ne_of_none hp hq)]; exact hp, rx, h.lay hq⟩
  | .owX _ _ :: _, _, _, h => by cases ‹List V› <;> exact h.elim
  | [], _ :: _, _, h => h.elim
  | .fr _ :: _, [], _, h => h.elim
  | .owL _ :: _, [], _, h => h.elim
  | .owK _ _ :: _, [], _, h => h.elim
def GsOk (gs : TGs) (is : List Nat) : Prop := ∀ (vs : List V) (σ : L2.St) (H : Hp) (Q : L2.St → Hp → Prop), vs.length = is.length → Q (setV is vs σ) H → gs vs σ H Q
theorem gs2 {i j : Nat} (h : i ≠ j) : GsOk (gCons (gName i) (gCons (gName j) gNil)) [i, j] := fun vs σ H Q hl q => by
  match vs, hl, q with
  | [u, v], _, q =>
    have q' : Q ((σ.set j (some v)).set i (some u)) H := q
    rw [List.set_comm _ _ h.symm] at q'
    exact ⟨u, [v], rfl, v, [], rfl, rfl, q'⟩
theorem gs3 {i j k : Nat} (h : i ≠ j) (h2 : i ≠ k) (h3 : j ≠ k) : GsOk (gCons (gName i) (gCons (gName j) (gCons (gName k) gNil))) [i, j, k] := fun vs σ H Q hl q => by
  match vs, hl, q with
  | [u, v, t], _, q =>
    have q' : Q (((σ.set k (some t)).set j (some v)).set i (some u)) H := q
    rw [List.set_comm _ _ h.symm, List.set_comm _ _ h2.symm, List.set_comm _ _ h3.symm] at q'
    exact ⟨u, [v, t], rfl, v, [t], rfl, t, [], rfl, rfl, q'⟩
theorem ss_parC (is : List Nat) {ts es : List Expr} {f : M (List Sl)} {gs : TGs} {k1 k2 : Nat} {p1 p2 : Pos} (ha : SAM X es f) (hg : PG X (.Tuple ts k1 p1) (gTup X.K is.length gs)) (hgo : GsOk gs is) (hz : is.length ≤ sizeLine := by decide)
    (hs : swapsWithSole [.Tuple ts k1 p1] (.Tuple es k2 p2) pos.line X.env = pure false := by rfl) (hw : swappedStores [.Tuple ts k1 p1] (.Tuple es k2 p2) X.env = pure none := by rfl)
    (h1 : (assignEach [.Tuple ts k1 p1] X.env).map (·.2) = [assign (.Tuple ts k1 p1) X.env] := by rfl) : SS X (.Assign [.Tuple ts k1 p1] (.Tuple es k2 p2) pos) (fParS is f) :=
  ps_weak (ps_asg (pe_tup ha) hg hs hw h1) fun D σ H ⟨B, g, ρ, w, r, ρ', w', R, e, q⟩ => by
    obtain ⟨ss, ρ1, w1, e1, e2⟩ := mBind_some e
    obtain ⟨hl, e2⟩ := ite_some e2
    cases e2
    refine ⟨B, g, ρ, w, ss, ρ1, _, R, e1, fun vs B' g1 H1 R1 l1 p1 => ?_⟩
    have hl' : is.length = ss.length := (beq_iff_eq.mp hl).symm
    have len : ∀ {ss : List Sl} {vs : List V} {B : Bs}, Pend X.K B' g1 H1 B ss vs → vs.length = ss.length := by
      intro ss
      induction ss with
      | nil => intro vs B h; cases vs with
        | nil => rfl
        | cons _ _ => exact h.elim
      | cons s ss ih =>
        intro vs B h
        cases vs with
        | nil => cases s <;> exact h.elim
        | cons v vs => cases s with
          | fr d => exact congrArg (· + 1) (ih h.2)
          | owL ds => obtain ⟨_, _, _, _, _, _, h⟩ := h; exact congrArg (· + 1) (ih h)
          | owK _ _ => obtain ⟨_, _, _, _, _, _, h⟩ := h; exact congrArg (· + 1) (ih h)
          | owX _ _ => exact h.elim
    have hv : vs.length = is.length := (len p1).trans hl'.symm
    refine ⟨by rw [hv]; exact hz, fun c hc => ?_⟩
    obtain ⟨g2, l2, R2⟩ := pend_set hl' (p1.lay (o := .tup vs) hc) (R1.lay hc)
    exact ⟨c, vs, rfl, SqT.of upd_same, hv, hgo vs σ _ _ hv (q _ g2 _ R2 (l1.trans l2))⟩
end
end Lw

end
section
set_option Elab.async false
set_option linter.all false
set_option maxRecDepth 100000
set_option maxHeartbeats 2000000
namespace Lw
open PySem PySem.Spec L2
/-! ### to reckon with the combinators -/


section
variable {α β : Type} {ρ : En} {w : Wd}
@[simp] theorem q_ret (a : α) : mRet a ρ w = some (a, ρ, w) := (rfl)
/-! no match stands in what is reckoned: two of them side by side send the kernel into what they look at -/
def oB (o : Option (α × En × Wd)) (k : α → M β) : Option (β × En × Wd) := match o with | some (a, ρ1, w1) => k a ρ1 w1 | none => none
@[simp] theorem oB_some (a : α) (ρ : En) (w : Wd) (k : α → M β) : oB (some (a, ρ, w)) k = k a ρ w := (rfl)
@[simp] theorem oB_none (k : α → M β) : oB none k = none := (rfl)
def liftO (o : Option α) (ρ : En) (w : Wd) : Option (α × En × Wd) := match o with | some a => some (a, ρ, w) | none => none
@[simp] theorem liftO_some (a : α) (ρ : En) (w : Wd) : liftO (some a) ρ w = some (a, ρ, w) := (rfl)
@[simp] theorem liftO_none (ρ : En) (w : Wd) : liftO (none : Option α) ρ w = none := (rfl)
def seqK (k : M Fl) : Fl → M Fl := fun r => match r with | .nx => k | r => mRet r
@[simp] theorem seqK_nx (k : M Fl) : seqK k .nx = k := (rfl)
@[simp] theorem seqK_bk (k : M Fl) : seqK k .bk = mRet .bk := (rfl)
@[simp] theorem seqK_ct (k : M Fl) : seqK k .ct = mRet .ct := (rfl)
@[simp] theorem seqK_rt (k : M Fl) (d : Dt) : seqK k (.rt d) = mRet (.rt d) := (rfl)
def callO (ρ : En) (o : Option (Dt × Wd)) : Option (Dt × En × Wd) := match o with | some (d, w') => some (d, ρ, w') | none => none
@[simp] theorem callO_some (ρ : En) (d : Dt) (w : Wd) : callO ρ (some (d, w)) = some (d, ρ, w) := (rfl)
@[simp] theorem callO_none (ρ : En) : callO ρ none = none := (rfl)
def parO (i j : Nat) : List Dt → M Fl := fun ds ρ w => match ds with | [a, b] => some (.nx, (ρ.set i (some (.fr a))).set j (some (.fr b)), w) | _ => none
@[simp] theorem parO_two (i j : Nat) (a b : Dt) (ρ : En) (w : Wd) : parO i j [a, b] ρ w = some (.nx, (ρ.set i (some (.fr a))).set j (some (.fr b)), w) := (rfl)
def asgO (o : Option En) (w : Wd) : Option (Fl × En × Wd) := match o with | some ρ1 => some (.nx, ρ1, w) | none => none
@[simp] theorem asgO_some (ρ : En) (w : Wd) : asgO (some ρ) w = some (.nx, ρ, w) := (rfl)
def ftO (o : Option En) (k : List Dt → En → Option En) (ds : List Dt) : Option En := match o with | some ρ1 => k ds ρ1 | none => none
@[simp] theorem ftO_some (ρ : En) (k : List Dt → En → Option En) (ds : List Dt) : ftO (some ρ) k ds = k ds ρ := (rfl)
def slO (o : Option (Option Sl)) : Option Dt := match o with | some (some s) => some s.dt | _ => none
@[simp] theorem slO_some (s : Sl) : slO (some (some s)) = some s.dt := (rfl)
def fvO (i : Nat) (ρ : En) (w : Wd) (o : Option (Option Sl)) : Option (Dt × En × Wd) := match o with
  | some (some (.fr d)) => some (d, ρ, w)
  | some (some s) => some (s.dt, ρ.set i (some (.fr s.dt)), w)
  | _ => none
@[simp] theorem fvO_fr (i : Nat) (ρ : En) (w : Wd) (d : Dt) : fvO i ρ w (some (some (.fr d))) = some (d, ρ, w) := (rfl)
@[simp] theorem fvO_owL (i : Nat) (ρ : En) (w : Wd) (ds : List Dt) : fvO i ρ w (some (some (.owL ds))) = some (.lst ds, ρ.set i (some (.fr (.lst ds))), w) := (rfl)
@[simp] theorem fvO_owK (i : Nat) (ρ : En) (w : Wd) (ks : List Key) (ds : List Dt) : fvO i ρ w (some (some (.owK ks ds))) = some (.dct ks ds, ρ.set i (some (.fr (.dct ks ds))), w) := (rfl)
@[simp] theorem v_fVar (i : Nat) (ρ : En) (w : Wd) : fVar i ρ w = fvO i ρ w ρ[i]? := (rfl)
def rvO (i : Nat) (ρ : En) (w : Wd) (o : Option (Option Sl)) : Option (RV × En × Wd) := match o with
  | some (some _) => some (.slot i, ρ, w)
  | _ => none
@[simp] theorem rvO_some (i : Nat) (ρ : En) (w : Wd) (s : Sl) : rvO i ρ w (some (some s)) = some (.slot i, ρ, w) := (rfl)
@[simp] theorem v_rVar (i : Nat) (ρ : En) (w : Wd) : rVar i ρ w = rvO i ρ w ρ[i]? := (rfl)
@[simp] theorem v_mRd (r : RV) (ρ : En) (w : Wd) : mRd r ρ w = liftO (rd r ρ) ρ w := by unfold mRd liftO; cases rd r ρ <;> rfl
@[simp] theorem v_rd1 (d : Dt) (ρ : En) : rd (.val d) ρ = some d := (rfl)
@[simp] theorem v_rd2 (i : Nat) (ρ : En) : rd (.slot i) ρ = slO ρ[i]? := (rfl)
@[simp] theorem v_fr (d : Dt) : (Sl.fr d).dt = d := (rfl)
@[simp] theorem v_owL (ds : List Dt) : (Sl.owL ds).dt = .lst ds := (rfl)
@[simp] theorem v_owK (ks : List Key) (ds : List Dt) : (Sl.owK ks ds).dt = .dct ks ds := (rfl)
@[simp] theorem v_asB (b : Bool) : asB (.bl b) = some b := (rfl)
def runO (o : Option (Fl × En × Wd)) : Option (Dt × Wd) := match o with
  | some (.rt d, _, w') => some (d, w')
  | some (.nx, _, w') => some (.non, w')
  | _ => none
@[simp] theorem runO_rt (d : Dt) (ρ : En) (w : Wd) : runO (some (.rt d, ρ, w)) = some (d, w) := (rfl)
@[simp] theorem runO_nx (ρ : En) (w : Wd) : runO (some (.nx, ρ, w)) = some (.non, w) := (rfl)
theorem u_run (F : M Fl) (n : Nat) (ds : List Dt) (w : Wd) : runF F n ds w = runO (F (env0 n ds) w) := (rfl)
theorem q_bind (f : M α) (k : α → M β) : mBind f k ρ w = oB (f ρ w) k := (rfl)
@[simp] theorem q_lit (d : Dt) : fLit d ρ w = some (d, ρ, w) := (rfl)
@[simp] theorem q_fail : (mFail : M α) ρ w = none := (rfl)
@[simp] theorem q_lift (o : Option α) : mLift o ρ w = liftO o ρ w := (rfl)
@[simp] theorem q_nx : fNx ρ w = some (.nx, ρ, w) := (rfl)
@[simp] theorem q_bk : fBk ρ w = some (.bk, ρ, w) := (rfl)
@[simp] theorem q_ct : fCt ρ w = some (.ct, ρ, w) := (rfl)
@[simp] theorem q_retN : fRetN ρ w = some (.rt .non, ρ, w) := (rfl)
@[simp] theorem q_set (i : Nat) (d : Dt) : setFr i d ρ w = some (.nx, ρ.set i (some (.fr d)), w) := (rfl)
@[simp] theorem q_setOw (i : Nat) (d : List Dt) : setOw i d ρ w = some (.nx, ρ.set i (some (.owL d)), w) := (rfl)
@[simp] theorem q_nil : (aNil : M (List α)) ρ w = some ([], ρ, w) := (rfl)
end
/-- the combinators, laid open -/
@[simp] theorem u_rVal (f : M Dt) (ρ : En) (w : Wd) : rVal f ρ w = mBind f (fun d => mRet (.val d)) ρ w := (rfl)
@[simp] theorem u_op2 (φ : Dt → Dt → Option Dt) (fa fb : M RV) (ρ : En) (w : Wd) : fOp2 φ fa fb ρ w = mBind fa (fun a => mBind fb fun b => mBind (mRd a) fun x => mBind (mRd b) fun y => mLift (φ x y)) ρ w := (rfl)
@[simp] theorem u_op1 (φ : Dt → Option Dt) (fa : M RV) (ρ : En) (w : Wd) : fOp1 φ fa ρ w = mBind fa (fun a => mBind (mRd a) fun x => mLift (φ x)) ρ w := (rfl)
@[simp] theorem u_cB (f : M Dt) (ρ : En) (w : Wd) : cB f ρ w = mBind f (fun d => mLift (asB d)) ρ w := (rfl)
@[simp] theorem u_seq (f k : M Fl) (ρ : En) (w : Wd) : fSeq f k ρ w = mBind f (seqK k) ρ w := (rfl)
@[simp] theorem u_ifS (c : M Bool) (f k : M Fl) (ρ : En) (w : Wd) : fIfS c f k ρ w = mBind c (fun b => if b then f else k) ρ w := (rfl)
@[simp] theorem u_if (c : M Bool) (f k : M Dt) (ρ : En) (w : Wd) : fIf c f k ρ w = mBind c (fun b => if b then f else k) ρ w := (rfl)
@[simp] theorem u_rif (c : M Bool) (f k : M RV) (ρ : En) (w : Wd) : rIf c f k ρ w = mBind c (fun b => if b then f else k) ρ w := (rfl)
@[simp] theorem u_and (c d : M Bool) (ρ : En) (w : Wd) : cAnd c d ρ w = mBind c (fun b => if b then d else mRet false) ρ w := (rfl)
@[simp] theorem u_or (c d : M Bool) (ρ : En) (w : Wd) : cOr c d ρ w = mBind c (fun b => if b then mRet true else d) ρ w := (rfl)
@[simp] theorem u_not (c : M Bool) (ρ : En) (w : Wd) : cNot c ρ w = mBind c (fun b => mRet (!b)) ρ w := (rfl)
@[simp] theorem u_andV (c d : M Dt) (ρ : En) (w : Wd) : fAndV c d ρ w = mBind (cB c) (fun b => if b then d else mRet (.bl false)) ρ w := (rfl)
@[simp] theorem u_orV (c d : M Dt) (ρ : En) (w : Wd) : fOrV c d ρ w = mBind (cB c) (fun b => if b then mRet (.bl true) else d) ρ w := (rfl)
@[simp] theorem u_notV (c : M Dt) (ρ : En) (w : Wd) : fNotV c ρ w = mBind (cB c) (fun b => mRet (.bl !b)) ρ w := (rfl)
@[simp] theorem u_ret (f : M Dt) (ρ : En) (w : Wd) : fRet f ρ w = mBind f (fun d => mRet (.rt d)) ρ w := (rfl)
@[simp] theorem u_drop (f : M Dt) (ρ : En) (w : Wd) : fDrop f ρ w = mBind f (fun _ => mRet .nx) ρ w := (rfl)
@[simp] theorem u_set (i : Nat) (f : M Dt) (ρ : En) (w : Wd) : fSet i f ρ w = mBind f (fun d => setFr i d) ρ w := (rfl)
@[simp] theorem u_setLc (i : Nat) (f : M (List Dt)) (ρ : En) (w : Wd) : fSetLc i f ρ w = mBind f (fun d => setFr i (.lst d)) ρ w := (rfl)
@[simp] theorem u_setN (i : Nat) (f : M (List Dt)) (ρ : En) (w : Wd) : fSetN i f ρ w = mBind f (fun d => setOw i d) ρ w := (rfl)
@[simp] theorem u_cons {α : Type} (f : M α) (k : M (List α)) (ρ : En) (w : Wd) : aCons f k ρ w = mBind f (fun x => mBind k fun xs => mRet (x :: xs)) ρ w := (rfl)
@[simp] theorem u_tup (f : M (List Dt)) (ρ : En) (w : Wd) : fTup f ρ w = mBind f (fun ds => if inLine ds.length then mRet (.tup ds) else mFail) ρ w := (rfl)
@[simp] theorem u_lst (f : M (List Dt)) (ρ : En) (w : Wd) : fLst f ρ w = mBind f (fun ds => if inLine ds.length then mRet (.lst ds) else mFail) ρ w := (rfl)
@[simp] theorem u_nlst (f : M (List Dt)) (ρ : En) (w : Wd) : nLst f ρ w = mBind f (fun ds => if inLine ds.length then mRet ds else mFail) ρ w := (rfl)
@[simp] theorem u_callB (φ : List Dt → Option Dt) (fa : M (List RV)) (ρ : En) (w : Wd) : fCallB φ fa ρ w = mBind fa (fun rs => mBind (mRds rs) fun ds => mLift (φ ds)) ρ w := (rfl)
@[simp] theorem u_rds_nil (ρ : En) (w : Wd) : mRds [] ρ w = some ([], ρ, w) := (rfl)
@[simp] theorem u_rds (r : RV) (rs : List RV) (ρ : En) (w : Wd) : mRds (r :: rs) ρ w = mBind (mRd r) (fun d => mBind (mRds rs) fun ds => mRet (d :: ds)) ρ w := (rfl)
@[simp] theorem u_call (m : Fn) (fa : M (List Dt)) (ρ : En) (w : Wd) : fCall m fa ρ w = mBind fa (fun ds ρ w => callO ρ (m ds w)) ρ w := (rfl)
@[simp] theorem u_par (i j : Nat) (fa : M (List Dt)) (ρ : En) (w : Wd) : fPar i j fa ρ w = mBind fa (parO i j) ρ w := (rfl)
@[simp] theorem u_parS (is : List Nat) (f : M (List Sl)) (ρ : En) (w : Wd) : fParS is f ρ w = mBind f (fun ss ρ w => if ss.length == is.length then some (.nx, setS is ss ρ, w) else none) ρ w := (rfl)
@[simp] theorem u_amF (f : M Dt) (k : M (List Sl)) (ρ : En) (w : Wd) : amF f k ρ w = mBind f (fun d => mBind k fun ss => mRet (.fr d :: ss)) ρ w := (rfl)
@[simp] theorem u_amN (f : M (List Dt)) (k : M (List Sl)) (ρ : En) (w : Wd) : amN f k ρ w = mBind f (fun d => mBind k fun ss => mRet (.owL d :: ss)) ρ w := (rfl)
@[simp] theorem u_setS (i : Nat) (is : List Nat) (s : Sl) (ss : List Sl) (ρ : En) : setS (i :: is) (s :: ss) ρ = (setS is ss ρ).set i (some s) := (rfl)
@[simp] theorem u_setS0 (ρ : En) : setS [] [] ρ = ρ := (rfl)
@[simp] theorem u_app (i : Nat) (f : M Dt) (ρ : En) (w : Wd) : fApp i f ρ w = mBind (isOwL i) (fun _ => mBind f fun d => mApp i d) ρ w := (rfl)
@[simp] theorem u_sl (fa : M RV) (fl fh : M (Option Int)) (ρ : En) (w : Wd) : fSl fa fl fh ρ w = mBind fa (fun a => mBind fl fun lo => mBind fh fun hi => mBind (mRd a) fun d => mLift (oSl lo hi d)) ρ w := (rfl)
@[simp] theorem u_cI (f : M Dt) (ρ : En) (w : Wd) : cI f ρ w = mBind f (fun d => mLift ((asI d).map some)) ρ w := (rfl)
@[simp] theorem u_asgT (ft : FT) (f : M Dt) (ρ : En) (w : Wd) : fAsgT ft f ρ w = mBind f (fun d ρ w => asgO (ft d ρ) w) ρ w := (rfl)
@[simp] theorem u_setIx (i : Nat) (fi : M RV) (fe : M Dt) (ρ : En) (w : Wd) : fSetIx i fi fe ρ w = mBind fe (fun d => mBind (isOwL i) fun _ => mBind fi fun r => mSetIx i d r) ρ w := (rfl)
@[simp] theorem u_for (ft : FT) (fi : M (List Dt)) (fb : M Fl) (ρ : En) (w : Wd) : fFor ft fi fb ρ w = mBind fi (fun ds => loopD ft fb ds) ρ w := (rfl)
@[simp] theorem u_any (f : M Dt) (ρ : En) (w : Wd) : iAny f ρ w = mBind f (fun d => mLift (itD d)) ρ w := (rfl)
@[simp] theorem u_rg (φ : List Dt → Option (List Dt)) (fa : M (List RV)) (ρ : En) (w : Wd) : iRg φ fa ρ w = mBind fa (fun rs => mBind (mRds rs) fun ds => mLift (φ ds)) ρ w := (rfl)
@[simp] theorem u_zip (fa : M (List Dt)) (ρ : En) (w : Wd) : iZipD fa ρ w = mBind fa (fun ds => mLift (zipO ds)) ρ w := (rfl)
@[simp] theorem u_rev (f : M Dt) (ρ : En) (w : Wd) : iRevD f ρ w = mBind f (fun d => mLift ((asL d).map List.reverse)) ρ w := (rfl)
@[simp] theorem u_enum (f : M Dt) (ρ : En) (w : Wd) : iEnumD f ρ w = mBind f (fun d => mLift ((asL d).map enumL)) ρ w := (rfl)
@[simp] theorem u_lc (ft : FT) (fi : M (List Dt)) (fc : M Bool) (fe : M Dt) (vs : List Nat) (ρ : En) (w : Wd) : nLc ft fi fc fe vs ρ w = mBind fi (fun ds => mBind (loopC ft fc fe vs ds []) fun ys ρ w => some (ys, wipeE ρ vs, w)) ρ w := (rfl)
@[simp] theorem u_srcPut (i : Nat) (p : Pt) (f : M Dt) (ρ : En) (w : Wd) : fSrcPut i p f ρ w = mBind f (fun d => mSrcPut i p d) ρ w := (rfl)
@[simp] theorem u_ftN (i : Nat) (d : Dt) (ρ : En) : ftN i d ρ = some (ρ.set i (some (.fr d))) := (rfl)
@[simp] theorem u_ftT (n : Nat) (k : List Dt → En → Option En) (ds : List Dt) (ρ : En) : ftT n k (.tup ds) ρ = if ds.length == n then k ds ρ else none := (rfl)
@[simp] theorem u_ftc (f : FT) (k : List Dt → En → Option En) (d : Dt) (ds : List Dt) (ρ : En) : ftsCons f k (d :: ds) ρ = ftO (f d ρ) k ds := (rfl)
@[simp] theorem u_ft0 (ρ : En) : ftsNil [] ρ = some ρ := (rfl)
theorem inLine_ok {n : Nat} (h : n ≤ 16777216) : inLine n = true := decide_eq_true (by rw [sizeLine_eq]; exact h)
theorem whl_nx {c : M Bool} {b : M Fl} {n : Nat} {ρ ρ1 ρ2 : En} {w w1 w2 : Wd} (h1 : c ρ w = some (true, ρ1, w1)) (h2 : b ρ1 w1 = some (.nx, ρ2, w2)) : whl c b (n + 1) ρ w = whl c b n ρ2 w2 := by
  rw [whl]; simp only [h1, h2]
theorem whl_rt {c : M Bool} {b : M Fl} {n : Nat} {ρ ρ1 ρ2 : En} {w w1 w2 : Wd} {d : Dt} (h1 : c ρ w = some (true, ρ1, w1)) (h2 : b ρ1 w1 = some (.rt d, ρ2, w2)) : whl c b (n + 1) ρ w = some (.rt d, ρ2, w2) := by
  rw [whl]; simp only [h1, h2]
theorem whl_end {c : M Bool} {b : M Fl} {n : Nat} {ρ ρ1 : En} {w w1 : Wd} (h1 : c ρ w = some (false, ρ1, w1)) : whl c b (n + 1) ρ w = some (.nx, ρ1, w1) := by
  rw [whl]; simp only [h1]
theorem seq_nx {f k : M Fl} {ρ ρ1 : En} {w w1 : Wd} (h : f ρ w = some (.nx, ρ1, w1)) : fSeq f k ρ w = k ρ1 w1 := by
  rw [u_seq, q_bind, h, oB_some, seqK_nx]
theorem seq_rt {f k : M Fl} {ρ ρ1 : En} {w w1 : Wd} {d : Dt} (h : f ρ w = some (.rt d, ρ1, w1)) : fSeq f k ρ w = some (.rt d, ρ1, w1) := by
  rw [u_seq, q_bind, h, oB_some, seqK_rt]; rfl

/-! comprehensions without draws -/
theorem loopC_map {ft : FT} {fc : M Bool} {fe : M Dt} {vs : List Nat} {ρ0 : En} {w : Wd} {y : Dt → Dt} : ∀ (ds acc : List Dt) (ρ : En), wipeE ρ vs = ρ0 → (∀ d ∈ ds, ∃ ρ1, ft d ρ0 = some ρ1 ∧ fc ρ1 w = some (true, ρ1, w) ∧ fe ρ1 w = some (y d, ρ1, w) ∧ wipeE ρ1 vs = ρ0) →
    acc.length + ds.length ≤ 16777216 → ∃ ρ', loopC ft fc fe vs ds acc ρ w = some (acc ++ ds.map y, ρ', w) ∧ wipeE ρ' vs = ρ0
  | [], acc, ρ, h0, _, _ => ⟨ρ, by rw [List.map_nil, List.append_nil]; rfl, h0⟩
  | d :: ds, acc, ρ, h0, h, hl => by
    obtain ⟨ρ1, h1, h2, h3, h4⟩ := h d (by simp)
    rw [List.length_cons] at hl
    obtain ⟨ρ', e, q⟩ := loopC_map ds (acc ++ [y d]) ρ1 h4 (fun d hd => h d (by simp [hd])) (by rw [List.length_append, List.length_singleton]; omega)
    refine ⟨ρ', ?_, q⟩
    have hz : acc.length < sizeLine := by rw [sizeLine_eq]; omega
    subst h0
    rw [loopC]
    simp only [h1, h2, h3, hz, decide_true, if_true, e]
    simp
theorem nLc_map {ft : FT} {fi : M (List Dt)} {fc : M Bool} {fe : M Dt} {vs : List Nat} {ρ ρ1 ρ0 : En} {w w1 : Wd} {ds : List Dt} (y : Dt → Dt) (hi : fi ρ w = some (ds, ρ1, w1)) (h0 : wipeE ρ1 vs = ρ0)
    (h : ∀ d ∈ ds, ∃ ρ2, ft d ρ0 = some ρ2 ∧ fc ρ2 w1 = some (true, ρ2, w1) ∧ fe ρ2 w1 = some (y d, ρ2, w1) ∧ wipeE ρ2 vs = ρ0) (hl : ds.length ≤ 16777216) : nLc ft fi fc fe vs ρ w = some (ds.map y, ρ0, w1) := by
  obtain ⟨ρ', e, q⟩ := loopC_map ds [] ρ1 h0 h (by simpa using hl)
  rw [u_lc, q_bind, hi]
  simp only [q_bind, oB_some, e, List.nil_append, q]
theorem loopC_filter {ft : FT} {fc : M Bool} {fe : M Dt} {vs : List Nat} {ρ0 : En} {w : Wd} {b : Dt → Bool} {y : Dt → Dt} : ∀ (ds acc : List Dt) (ρ : En), wipeE ρ vs = ρ0 → (∀ d ∈ ds, ∃ ρ1, ft d ρ0 = some ρ1 ∧ fc ρ1 w = some (b d, ρ1, w) ∧ (b d = true → fe ρ1 w = some (y d, ρ1, w)) ∧ wipeE ρ1 vs = ρ0) →
    acc.length + ds.length ≤ 16777216 → ∃ ρ', loopC ft fc fe vs ds acc ρ w = some (acc ++ (ds.filter b).map y, ρ', w) ∧ wipeE ρ' vs = ρ0
  | [], acc, ρ, h0, _, _ => ⟨ρ, by rw [List.filter_nil, List.map_nil, List.append_nil]; rfl, h0⟩
  | d :: ds, acc, ρ, h0, h, hl => by
    obtain ⟨ρ1, h1, h2, h3, h4⟩ := h d (by simp)
    rw [List.length_cons] at hl
    cases hb : b d with
    | true =>
      obtain ⟨ρ', e, q⟩ := loopC_filter ds (acc ++ [y d]) ρ1 h4 (fun d hd => h d (by simp [hd])) (by rw [List.length_append, List.length_singleton]; omega)
      refine ⟨ρ', ?_, q⟩
      have hz : acc.length < sizeLine := by rw [sizeLine_eq]; omega
      subst h0
      rw [loopC]
      simp only [h1, h2, h3 hb, hz, decide_true, if_true, e, hb]
      simp [hb]
    | false =>
      obtain ⟨ρ', e, q⟩ := loopC_filter ds acc ρ1 h4 (fun d hd => h d (by simp [hd])) (by omega)
      refine ⟨ρ', ?_, q⟩
      subst h0
      rw [loopC]
      simp only [h1, h2, e, hb]
      simp [hb]
theorem nLc_filter {ft : FT} {fi : M (List Dt)} {fc : M Bool} {fe : M Dt} {vs : List Nat} {ρ ρ1 ρ0 : En} {w w1 : Wd} {ds : List Dt} (b : Dt → Bool) (y : Dt → Dt) (hi : fi ρ w = some (ds, ρ1, w1)) (h0 : wipeE ρ1 vs = ρ0)
    (h : ∀ d ∈ ds, ∃ ρ2, ft d ρ0 = some ρ2 ∧ fc ρ2 w1 = some (b d, ρ2, w1) ∧ (b d = true → fe ρ2 w1 = some (y d, ρ2, w1)) ∧ wipeE ρ2 vs = ρ0) (hl : ds.length ≤ 16777216) : nLc ft fi fc fe vs ρ w = some ((ds.filter b).map y, ρ0, w1) := by
  obtain ⟨ρ', e, q⟩ := loopC_filter ds [] ρ1 h0 h (by simpa using hl)
  rw [u_lc, q_bind, hi]
  simp only [q_bind, oB_some, e, List.nil_append, q]
/-! for, one item -/
theorem loop_nx {ft : FT} {fb : M Fl} {d : Dt} {ds : List Dt} {ρ ρ1 ρ2 : En} {w w2 : Wd} (h1 : ft d ρ = some ρ1) (h2 : fb ρ1 w = some (.nx, ρ2, w2)) : loopD ft fb (d :: ds) ρ w = loopD ft fb ds ρ2 w2 := by
  rw [loopD]; simp only [h1, h2]
theorem loop_ct {ft : FT} {fb : M Fl} {d : Dt} {ds : List Dt} {ρ ρ1 ρ2 : En} {w w2 : Wd} (h1 : ft d ρ = some ρ1) (h2 : fb ρ1 w = some (.ct, ρ2, w2)) : loopD ft fb (d :: ds) ρ w = loopD ft fb ds ρ2 w2 := by
  rw [loopD]; simp only [h1, h2]
theorem loop_bk {ft : FT} {fb : M Fl} {d : Dt} {ds : List Dt} {ρ ρ1 ρ2 : En} {w w2 : Wd} (h1 : ft d ρ = some ρ1) (h2 : fb ρ1 w = some (.bk, ρ2, w2)) : loopD ft fb (d :: ds) ρ w = some (.nx, ρ2, w2) := by
  rw [loopD]; simp only [h1, h2]
theorem loop_rt {ft : FT} {fb : M Fl} {d v : Dt} {ds : List Dt} {ρ ρ1 ρ2 : En} {w w2 : Wd} (h1 : ft d ρ = some ρ1) (h2 : fb ρ1 w = some (.rt v, ρ2, w2)) : loopD ft fb (d :: ds) ρ w = some (.rt v, ρ2, w2) := by
  rw [loopD]; simp only [h1, h2]
theorem loop_nil {ft : FT} {fb : M Fl} {ρ : En} {w : Wd} : loopD ft fb [] ρ w = some (.nx, ρ, w) := (rfl)
/-- an invariant over the items -/
theorem loop_inv {ft : FT} {fb : M Fl} (I : List Dt → En → Wd → Prop) : ∀ (ds : List Dt) (ρ : En) (w : Wd), I ds ρ w → (∀ d ds ρ w, I (d :: ds) ρ w → ∃ ρ1 ρ2 w2, ft d ρ = some ρ1 ∧ (fb ρ1 w = some (.nx, ρ2, w2) ∨ fb ρ1 w = some (.ct, ρ2, w2)) ∧ I ds ρ2 w2) →
    ∃ ρ' w', loopD ft fb ds ρ w = some (.nx, ρ', w') ∧ I [] ρ' w'
  | [], ρ, w, h, _ => ⟨ρ, w, rfl, h⟩
  | d :: ds, ρ, w, h, st => by
    obtain ⟨ρ1, ρ2, w2, h1, h2, h3⟩ := st d ds ρ w h
    obtain ⟨ρ', w', e, q⟩ := loop_inv I ds ρ2 w2 h3 st
    refine ⟨ρ', w', ?_, q⟩
    rcases h2 with h2 | h2
    · rw [loop_nx h1 h2]; exact e
    · rw [loop_ct h1 h2]; exact e
/-! whole numbers -/
theorem fdivN (a b : Nat) : Int.fdiv (a : Int) (b : Int) = ((a / b : Nat) : Int) := by
  rw [Int.fdiv_eq_ediv_of_nonneg _ (Int.natCast_nonneg b)]; rfl
theorem fmodN (a b : Nat) : Int.fmod (a : Int) (b : Int) = ((a % b : Nat) : Int) := by
  rw [Int.fmod_eq_emod_of_nonneg _ (Int.natCast_nonneg b)]; rfl
def nD (n : Nat) : Dt := .int (n : Int)
def toD (ds : List Nat) : List Dt := ds.map nD
theorem mulOk_r {i : Int} {j : Nat} (h : j < 2 ^ 64) : mulOk i (j : Int) = true := by
  have : ((j : Int)).natAbs < 2 ^ 64 := by simpa using h
  simp only [mulOk, this, decide_true, Bool.or_true, Bool.true_or]
theorem mulOk_l {i : Nat} {j : Int} (h : i < 2 ^ 64) : mulOk (i : Int) j = true := by
  have : ((i : Int)).natAbs < 2 ^ 64 := by simpa using h
  simp only [mulOk, this, decide_true, Bool.true_or]
theorem divOk_n {j : Nat} (h0 : 0 < j) (h : j < 2 ^ 8000) : divOk (j : Int) = true := by
  have h1 : (j : Int) ≠ 0 := by omega
  have h2 : ((j : Int)).natAbs.log2 < 9000 := by
    rw [Int.natAbs_natCast]
    exact Nat.lt_of_lt_of_le ((Nat.log2_lt (by omega)).mpr h) (by decide)
  simp only [divOk, h1, h2, decide_true, ne_eq, not_false_eq_true, Bool.and_true]
theorem divOk_small {j : Nat} (h0 : 0 < j) (h : j < 2 ^ 64) : divOk (j : Int) = true := divOk_n h0 (Nat.lt_of_lt_of_le h (Nat.pow_le_pow_right (by decide) (by decide)))
end Lw

end
section
set_option Elab.async false
set_option linter.all false
set_option maxRecDepth 100000
set_option maxHeartbeats 2000000
namespace Lw
open PySem PySem.Spec L2
/-! lists of whole numbers -/
def iD (ns : List Int) : List Dt := ns.map Dt.int
def iP (ns : List Int) : List PyData := ns.map PyData.int
theorem pyL_iD : ∀ ns : List Int, Dt.pyL (iD ns) = some (iP ns)
  | [] => rfl
  | n :: ns => by
    show (match Dt.py (.int n) with | some x => (match Dt.pyL (iD ns) with | some xs => some (x :: xs) | none => none) | none => none) = _
    rw [pyL_iD ns]; rfl
theorem lay_iP : ∀ ns : List Int, PyData.canLayAll0 (iP ns) = true
  | [] => by simp [iP, PyData.canLayAll0]
  | n :: ns => by
    have := lay_iP ns
    simp only [iP, List.map_cons, PyData.canLayAll0, PyData.canLay0, Bool.true_and] at this ⊢
    exact this
theorem dep_iP : ∀ ns : List Int, PyData.depthAll (iP ns) = 0
  | [] => by simp [iP, PyData.depthAll]
  | n :: ns => by
    have := dep_iP ns
    simp only [iP, List.map_cons, PyData.depthAll, PyData.depth] at this ⊢
    rw [this]; rfl
theorem shp_int (i : Int) : SeqAt.shaped (.int i) = true := by simp [SeqAt.shaped, PyData.canLay0, PyData.depth]
theorem shp_non : SeqAt.shaped .none = true := by simp [SeqAt.shaped, PyData.canLay0, PyData.depth]
theorem shp_bl (b : Bool) : SeqAt.shaped (.bool b) = true := by simp [SeqAt.shaped, PyData.canLay0, PyData.depth]
theorem shp_lst (ns : List Int) : SeqAt.shaped (.list (iP ns)) = true := by simp [SeqAt.shaped, PyData.canLay0, PyData.depth, lay_iP, dep_iP]
theorem shp_tup (ns : List Int) : SeqAt.shaped (.tuple (iP ns)) = true := by simp [SeqAt.shaped, PyData.canLay0, PyData.depth, lay_iP, dep_iP]
theorem py_lst (ns : List Int) : (Dt.lst (iD ns)).py = some (.list (iP ns)) := by
  rw [Dt.py, pyL_iD]
theorem py_tup (ns : List Int) : (Dt.tup (iD ns)).py = some (.tuple (iP ns)) := by
  rw [Dt.py, pyL_iD]
theorem py_int (n : Int) : (Dt.int n).py = some (.int n) := by rw [Dt.py]
theorem py_non : (Dt.non).py = some .none := by rw [Dt.py]
theorem py_bl (b : Bool) : (Dt.bl b).py = some (.bool b) := by rw [Dt.py]
theorem eqv_ints : ∀ a b : List Int, PyData.eqvAll (iP a) (iP b) = decide (a = b)
  | [], [] => by simp [iP, PyData.eqvAll]
  | [], _ :: _ => by simp [iP, PyData.eqvAll]
  | _ :: _, [] => by simp [iP, PyData.eqvAll]
  | a :: as, b :: bs => by
    have := eqv_ints as bs
    simp only [iP, List.map_cons, PyData.eqvAll, PyData.eqv] at this ⊢
    rw [this]
    by_cases h : a = b <;> simp [h]
@[simp] theorem eq_int (a b : Int) : oEq (.int a) (.int b) = some (.bl (decide (a = b))) := by
  unfold oEq; rw [py_int, py_int]; simp only [shp_int, Bool.and_self, if_true, PyData.eqv]; rfl
@[simp] theorem ne_int (a b : Int) : oNe (.int a) (.int b) = some (.bl (!decide (a = b))) := by
  unfold oNe; rw [py_int, py_int]; simp only [shp_int, Bool.and_self, if_true, PyData.eqv]; rfl
@[simp] theorem ne_tup (a b : List Int) : oNe (.tup (iD a)) (.tup (iD b)) = some (.bl (!decide (a = b))) := by
  unfold oNe; rw [py_tup, py_tup]; simp only [shp_tup, Bool.and_self, if_true, PyData.eqv, eqv_ints]
@[simp] theorem eq_tup (a b : List Int) : oEq (.tup (iD a)) (.tup (iD b)) = some (.bl (decide (a = b))) := by
  unfold oEq; rw [py_tup, py_tup]; simp only [shp_tup, Bool.and_self, if_true, PyData.eqv, eqv_ints]
@[simp] theorem ne_lst (a b : List Int) : oNe (.lst (iD a)) (.lst (iD b)) = some (.bl (!decide (a = b))) := by
  unfold oNe; rw [py_lst, py_lst]; simp only [shp_lst, Bool.and_self, if_true, PyData.eqv, eqv_ints]
@[simp] theorem eq_lst (a b : List Int) : oEq (.lst (iD a)) (.lst (iD b)) = some (.bl (decide (a = b))) := by
  unfold oEq; rw [py_lst, py_lst]; simp only [shp_lst, Bool.and_self, if_true, PyData.eqv, eqv_ints]
@[simp] theorem ne_int_non (a : Int) : oNe (.int a) .non = some (.bl true) := by
  unfold oNe; rw [py_int, py_non]; simp only [shp_int, shp_non, Bool.and_self, if_true, PyData.eqv]; rfl
@[simp] theorem ne_non_int (a : Int) : oNe .non (.int a) = some (.bl true) := by
  unfold oNe; rw [py_int, py_non]; simp only [shp_int, shp_non, Bool.and_self, if_true, PyData.eqv]; rfl
@[simp] theorem ne_non : oNe .non .non = some (.bl false) := by
  unfold oNe; rw [py_non]; simp only [shp_non, Bool.and_self, if_true, PyData.eqv]; rfl
theorem any_ints (x : Int) : ∀ ns : List Int, ((iP ns).any fun z => PyData.eqv z (.int x)) = decide (x ∈ ns)
  | [] => by simp [iP]
  | n :: ns => by
    have := any_ints x ns
    simp only [iP, List.map_cons, List.any_cons, PyData.eqv] at this ⊢
    rw [this]
    by_cases h : n = x
    · simp [h]
    · have h2 : ¬ x = n := fun e => h e.symm
      simp [h, h2]
@[simp] theorem in_ints (x : Int) (ns : List Int) : oIn (.int x) (.lst (iD ns)) = some (.bl (decide (x ∈ ns))) := by
  unfold oIn
  simp only [py_int, py_lst, shp_int, shp_lst, Bool.and_self, if_true, any_ints]
@[simp] theorem notin_ints (x : Int) (ns : List Int) : oNotIn (.int x) (.lst (iD ns)) = some (.bl (!decide (x ∈ ns))) := by
  unfold oNotIn
  simp only [py_int, py_lst, shp_int, shp_lst, Bool.and_self, if_true, any_ints]
theorem intsOf_iD (ns : List Int) : intsOf (iD ns) = some ns := intsOf_map ns
def zN (ns : List Nat) : List Int := ns.map fun (n : Nat) => (n : Int)
theorem toD_iD (ns : List Nat) : toD ns = iD (zN ns) := by
  unfold toD iD zN nD; rw [List.map_map]; rfl
theorem zN_sum : ∀ ns : List Nat, (zN ns).sum = (ns.sum : Int)
  | [] => rfl
  | n :: ns => by
    have := zN_sum ns
    unfold zN at this ⊢
    rw [List.map_cons, List.sum_cons, List.sum_cons, this]; simp
/-! places and cuts -/
theorem atI_nat {α : Type} (ds : List α) (i : Nat) : atI ds (i : Int) = ds[i]? := by
  unfold atI ixN
  rw [if_pos (by omega)]
  by_cases h : i < ds.length
  · rw [if_pos (by omega)]; simp
  · rw [if_neg (by omega)]; simp; omega
theorem atI_last {α : Type} (ds : List α) (x : α) : atI (ds ++ [x]) (-1) = some x := by
  unfold atI ixN
  rw [if_neg (by omega), if_pos (by simp; omega)]
  have : ((-1 : Int) + ((ds ++ [x]).length : Nat)).toNat = ds.length := by simp; omega
  rw [this]; simp
@[simp] theorem ix_nat (ds : List Dt) (i : Nat) : oIx (.lst ds) (.int (i : Int)) = ds[i]? := atI_nat ds i
@[simp] theorem ix_last (ds : List Dt) (x : Dt) : oIx (.lst (ds ++ [x])) (.int (-1)) = some x := atI_last ds x
theorem sl_last (ds : List Dt) : oSl none (some (-1)) (.lst ds) = some (.lst ds.dropLast) := by
  show some (Dt.lst (cutD ds none (some (-1)))) = _
  unfold cutD
  rw [HT.sIx_none]
  have : HT.sIx ds.length ds.length (some (-1)) = ds.length - 1 := by unfold HT.sIx; simp; omega
  rw [this, List.drop_zero, Nat.sub_zero, List.dropLast_eq_take]
theorem sl_take (ds : List Dt) (n : Nat) : oSl none (some (n : Int)) (.lst ds) = some (.lst (ds.take n)) := by
  show some (Dt.lst (cutD ds none (some (n : Int)))) = _
  unfold cutD
  rw [HT.sIx_none, HT.sIx_nat, List.drop_zero, Nat.sub_zero]
  by_cases h : n ≤ ds.length
  · rw [Nat.min_eq_left h]
  · rw [Nat.min_eq_right (by omega), List.take_of_length_le (Nat.le_refl _), List.take_of_length_le (by omega)]
theorem fits_long {i : Int} (h : i.natAbs < 2 ^ 62) : Builtin.Range.rangeFitsLong i = true := by
  unfold Builtin.Range.rangeFitsLong
  simp; omega
theorem rg3_ok {a b c : Int} {n : Nat} (ha : a.natAbs < 2 ^ 40) (hb : b.natAbs < 2 ^ 40) (hc : c.natAbs < 2 ^ 20) (h0 : c ≠ 0) (hn : n < 2 ^ 60) (e : Builtin.Range.rangeSize a b c = n) :
    rg3 [.int a, .int b, .int c] = some (rgDc a c n) := by
  have s : Builtin.Range.small a b c = true := by
    unfold Builtin.Range.small
    rw [e, fits_long (i := a) (by omega), fits_long (i := b) (by omega), fits_long (i := c) (by omega), fits_long (i := (n : Int)) (by omega)]
    by_cases hc0 : c > 0
    · rw [if_pos hc0, fits_long (i := b + (c - 1)) (by omega)]; simp
    · rw [if_neg hc0, fits_long (i := b + (c + 1)) (by omega)]; simp
  unfold rg3
  simp only [s, e]
  rw [if_pos (by simp [h0]; omega)]
  rfl
theorem rg3_down (n : Nat) (h : n < 2 ^ 39) : rg3 [.int ((n : Int) - 1), .int (-1), .int (-1)] = some ((List.range n).reverse.map fun (i : Nat) => Dt.int (i : Int)) := by
  have e : Builtin.Range.rangeSize ((n : Int) - 1) (-1) (-1) = n := by
    unfold Builtin.Range.rangeSize
    rw [if_neg (by omega), Int.neg_neg, Int.ediv_one]
    by_cases h : 0 < n
    · rw [if_pos (by omega)]; omega
    · rw [if_neg (by omega)]; omega
  rw [rg3_ok (n := n) (by omega) (by decide) (by decide) (by decide) (by omega) e]
  unfold rgDc
  congr 1
  refine List.ext_getElem (by simp) fun i h1 h2 => ?_
  simp only [List.length_map, List.length_range] at h1
  simp only [List.getElem_map, List.getElem_range, List.getElem_reverse, List.length_range]
  congr 1
  omega
theorem rg3_two (a : Int) (n : Nat) (ha : a.natAbs < 2 ^ 39) (h : n < 2 ^ 38) (j : Int) (hj : j = a + 2 * n ∨ (j = a + 2 * n - 1 ∧ 0 < n)) : rg3 [.int a, .int j, .int 2] = some (rgDc a 2 n) := by
  refine rg3_ok (n := n) (by omega) (by omega) (by decide) (by decide) (by omega) ?_
  unfold Builtin.Range.rangeSize
  rw [if_pos (by decide)]
  by_cases h0 : 0 < n
  · rw [if_pos (by omega)]; omega
  · rw [if_neg (by omega)]; omega
/-! natural numbers, folded -/
theorem nD_lit0 : Dt.int 0 = nD 0 := rfl
theorem nD_lit1 : Dt.int 1 = nD 1 := rfl
theorem nd_mod {a b : Nat} (h : b ≠ 0) : oMod (nD a) (nD b) = some (nD (a % b)) := by
  unfold oMod nD
  simp only [fmodN]
  rw [if_pos (by simp; exact h)]
theorem nd_div {a b : Nat} (h : divOk (b : Int) = true) : oDiv (nD a) (nD b) = some (nD (a / b)) := by
  unfold oDiv nD
  simp only [fdivN, h, if_true]
theorem nd_mul {a b : Nat} (h : mulOk (a : Int) (b : Int) = true) : oMul (nD a) (nD b) = some (nD (a * b)) := by
  unfold oMul nD
  simp only [h, if_true]; rfl
@[simp] theorem nd_add (a b : Nat) : oAdd (nD a) (nD b) = some (nD (a + b)) := (rfl)
@[simp] theorem nd_gt0 (a : Nat) : oGt (nD a) (.int 0) = some (.bl (decide (0 < a))) := by
  unfold oGt nD
  show some (Dt.bl (decide ((0 : Int) < (a : Int)))) = _
  congr 2; simp
@[simp] theorem nd_eq0 (a : Nat) : oEq (nD a) (.int 0) = some (.bl (decide (a = 0))) := by
  unfold nD; rw [eq_int]; congr 2; simp
@[simp] theorem nd_ne0 (a : Nat) : oNe (nD a) (.int 0) = some (.bl (!decide (a = 0))) := by
  unfold nD; rw [ne_int]; congr 3; simp
@[simp] theorem nd_eq1 (a : Nat) : oEq (nD a) (.int 1) = some (.bl (decide (a = 1))) := by
  unfold nD; rw [eq_int]; congr 2; simp; omega
@[simp] theorem nd_lt (a b : Nat) : oLt (nD a) (nD b) = some (.bl (decide (a < b))) := by
  unfold oLt nD
  show some (Dt.bl (decide ((a : Int) < (b : Int)))) = _
  congr 2; simp
@[simp] theorem nd_non (a : Nat) : isNon (nD a) = false := (rfl)
@[simp] theorem non_non : isNon .non = true := (rfl)
@[simp] theorem non_int (a : Int) : isNon (.int a) = false := (rfl)
@[simp] theorem toD_len (a : List Nat) : (toD a).length = a.length := List.length_map _
@[simp] theorem len_lst (ds : List Dt) : cLen [.lst ds] = some (nD ds.length) := (rfl)
@[simp] theorem len_tup (ds : List Dt) : cLen [.tup ds] = some (nD ds.length) := (rfl)
@[simp] theorem neg_int (i : Int) : oNeg (.int i) = some (.int (-i)) := (rfl)
theorem toD_app (a b : List Nat) : toD (a ++ b) = toD a ++ toD b := List.map_append
theorem toD_one (a : Nat) : toD [a] = [nD a] := rfl
@[simp] theorem sum_toD (ns : List Nat) : cSum [.lst (toD ns)] = some (nD ns.sum) := by
  rw [toD_iD]
  unfold cSum
  simp only [intsOf_iD, zN_sum]; rfl
/-! comprehensions over whole numbers -/
theorem wipe1 {ρ : En} {i : Nat} {u : Option Sl} (hw : ρ[i]? = some none) : wipeE (ρ.set i u) [i] = ρ := by
  have hi : i < ρ.length := by
    obtain ⟨h, _⟩ := List.getElem?_eq_some_iff.mp hw
    exact h
  simp only [wipeE]
  refine List.ext_getElem? fun k => ?_
  by_cases h1 : k = i
  · subst h1
    rw [hw]; simp [hi]
  · simp [List.getElem?_set, Ne.symm h1]
theorem wipe0 {ρ : En} {i : Nat} (hw : ρ[i]? = some none) : wipeE ρ [i] = ρ := by
  have h := wipe1 (u := none) hw
  simpa [wipeE] using h
theorem lc_ints {fi : M (List Dt)} {fe : M Dt} {ρ : En} {w : Wd} {i : Nat} (ns : List Int) (g : Int → Int) (hf : fi ρ w = some (iD ns, ρ, w)) (hw : ρ[i]? = some none)
    (he : ∀ n ∈ ns, fe (ρ.set i (some (.fr (.int n)))) w = some (.int (g n), ρ.set i (some (.fr (.int n))), w)) (hl : ns.length ≤ 16777216) :
    nLc (ftN i) fi (mRet true) fe [i] ρ w = some (iD (ns.map g), ρ, w) := by
  have e : (iD ns).map (fun d => match d with | .int n => .int (g n) | d => d) = iD (ns.map g) := by
    unfold iD; rw [List.map_map, List.map_map]; rfl
  rw [nLc_map (ρ0 := ρ) (w1 := w) (fun d => match d with | .int n => .int (g n) | d => d) hf (wipe0 hw) ?_ (by simpa [iD] using hl), e]
  intro d hd
  obtain ⟨n, hn, rfl⟩ := List.mem_map.mp hd
  exact ⟨_, rfl, rfl, he n hn, wipe1 hw⟩
theorem lc_intsF {fi : M (List Dt)} {fc : M Bool} {fe : M Dt} {ρ : En} {w : Wd} {i : Nat} (ns : List Int) (b : Int → Bool) (g : Int → Int) (hf : fi ρ w = some (iD ns, ρ, w)) (hw : ρ[i]? = some none)
    (hc : ∀ n ∈ ns, fc (ρ.set i (some (.fr (.int n)))) w = some (b n, ρ.set i (some (.fr (.int n))), w))
    (he : ∀ n ∈ ns, b n = true → fe (ρ.set i (some (.fr (.int n)))) w = some (.int (g n), ρ.set i (some (.fr (.int n))), w)) (hl : ns.length ≤ 16777216) :
    nLc (ftN i) fi fc fe [i] ρ w = some (iD ((ns.filter b).map g), ρ, w) := by
  have e : ((iD ns).filter (fun d => match d with | .int n => b n | _ => false)).map (fun d => match d with | .int n => .int (g n) | d => d) = iD ((ns.filter b).map g) := by
    unfold iD; rw [List.filter_map, List.map_map, List.map_map]; rfl
  rw [nLc_filter (ρ0 := ρ) (w1 := w) (fun d => match d with | .int n => b n | _ => false) (fun d => match d with | .int n => .int (g n) | d => d) hf (wipe0 hw) ?_ (by simpa [iD] using hl), e]
  intro d hd
  obtain ⟨n, hn, rfl⟩ := List.mem_map.mp hd
  exact ⟨_, rfl, hc n hn, he n hn, wipe1 hw⟩
@[simp] theorem it_lst (ds : List Dt) : itD (.lst ds) = some ds := (rfl)
@[simp] theorem it_tup (ds : List Dt) : itD (.tup ds) = some ds := (rfl)
theorem add_ints {a b : List Int} (h : a.length + b.length ≤ 16777216) : oAdd (.lst (iD a)) (.lst (iD b)) = some (.lst (iD (a ++ b))) := by
  have : inLine ((iD a).length + (iD b).length) = true := inLine_ok (by simpa [iD] using h)
  simp only [oAdd, this, if_true]
  simp [iD]
@[simp] theorem add_int (a b : Int) : oAdd (.int a) (.int b) = some (.int (a + b)) := (rfl)
@[simp] theorem sub_int (a b : Int) : oSub (.int a) (.int b) = some (.int (a - b)) := (rfl)
@[simp] theorem sub_intn (a : Int) (b : Nat) : oSub (.int a) (nD b) = some (.int (a - (b : Int))) := (rfl)
@[simp] theorem add_intn (a : Int) (b : Nat) : oAdd (.int a) (nD b) = some (.int (a + (b : Int))) := (rfl)
@[simp] theorem iD_len (a : List Int) : (iD a).length = a.length := List.length_map _
@[simp] theorem sorted_iD (ns : List Int) : cSortedI [.lst (iD ns)] = some (.lst (iD (srtI ns))) := by
  unfold cSortedI; simp only [intsOf_iD]; rfl
@[simp] theorem tuple_lst (ds : List Dt) : cTuple [.lst ds] = some (.tup ds) := (rfl)
@[simp] theorem bIx_lst_last (a : List Nat) (b : Nat) : oIx (.lst (toD (a ++ [b]))) (.int (-1)) = some (nD b) := by rw [toD_app, toD_one]; exact ix_last _ _
end Lw

end
section
set_option Elab.async false
set_option linter.all false
set_option maxRecDepth 100000
set_option maxHeartbeats 2000000
namespace Lw
open PySem PySem.Spec L2
open PyProof.Rows (envOfC)
section
variable {X : Cx} {e : Expr} {es : List Expr} {x : Str} {fa : M (List RV)} {p pos : Pos}
/-! gcd -/
def cGcd : List Dt → Option Dt
  | [.int a, .int b] => some (.int ((Nat.gcd a.natAbs b.natAbs : Nat) : Int))
  | _ => none
theorem n_gcd {K : PySem.W.Frag} : OpN K rGcd cGcd := fun g H xs ds d Q hs r e k => by
  unfold cGcd at e
  split at e
  · cases e
    obtain ⟨v, u, rfl, ev, eu⟩ := r.two
    cases ev; cases eu
    exact ⟨_, _, rfl, k.int⟩
  · cases e
theorem se_gcd (hm : X.mg x = some (.builtin "math.gcd")) (ha : SAR X (e :: es) fa) (hg : Gl X x := by rfl) (hdb : (x == ("__debug__" : Str)) = false := by decide)
    (he : starEach (e :: es) X.env = (false, eval e X.env) :: starEach es X.env := by rfl) (hpl : (backTo pos (starEach es X.env)).any (·.1) = false := by rfl) : SE X (.Call (.Name x p) (e :: es) [] pos) (fCallB cGcd fa) :=
  pe_weak (pe_callBfun cr_gcd hg hm ha hdb he hpl) fun _ _ _ h => callB_read n_gcd h
/-! all, any of a list -/
def blsOf : List Dt → Option (List Bool)
  | [] => some []
  | .bl b :: ds => match blsOf ds with
    | some bs => some (b :: bs)
    | none => none
  | _ => none
theorem blsOf_some : ∀ {ds : List Dt} {bs : List Bool}, blsOf ds = some bs → ds = bs.map Dt.bl
  | [], _, e => by cases e; rfl
  | d :: ds, bs, e => by
    cases d <;> first | (unfold blsOf at e; cases e; done) | skip
    unfold blsOf at e
    split at e
    · rename_i is h
      cases e
      rw [blsOf_some h]; rfl
    all_goals cases e
theorem RpL.bls {K : PySem.W.Frag} {g : Gh} : ∀ {bs : List Bool} {xs : List V}, RpL K g (bs.map Dt.bl) xs → xs = bs.map V.bl
  | [], [], _ => rfl
  | b :: bs, x :: xs, ⟨h1, h2⟩ => by cases h1; rw [List.map_cons, RpL.bls h2]
  | [], _ :: _, h => h.elim
  | _ :: _, [], h => h.elim
def cAll : List Dt → Option Dt
  | [.lst ds] => match blsOf ds with
    | some bs => some (.bl (bs.all id))
    | none => none
  | _ => none
def cAny : List Dt → Option Dt
  | [.lst ds] => match blsOf ds with
    | some bs => some (.bl (bs.any id))
    | none => none
  | _ => none
theorem n_all {K : PySem.W.Frag} : OpN K (rAll K) cAll := fun g H xs ds d Q hs r e k => by
  unfold cAll at e
  split at e
  · split at e
    · rename_i bs h
      cases e
      obtain ⟨v, rfl, a, ys, rfl, hx, rx⟩ := r.one
      rw [blsOf_some h] at rx
      rw [RpL.bls rx] at hx
      exact ⟨_, _, rfl, SqL.of hx, k.bl⟩
    · cases e
  · cases e
theorem n_any {K : PySem.W.Frag} : OpN K (rAny K) cAny := fun g H xs ds d Q hs r e k => by
  unfold cAny at e
  split at e
  · split at e
    · rename_i bs h
      cases e
      obtain ⟨v, rfl, a, ys, rfl, hx, rx⟩ := r.one
      rw [blsOf_some h] at rx
      rw [RpL.bls rx] at hx
      exact ⟨_, _, rfl, SqL.of hx, k.bl⟩
    · cases e
  · cases e
/-! a table of the module: tuples of whole numbers to whole numbers -/
inductive TabR : List (List Int × Int) → List (List Key × Addr × Value) → Prop where
  | nil : TabR [] []
  | cons {t : List Int × Int} {q : List Key × Addr × Value} {ts : List (List Int × Int)} {qs : List (List Key × Addr × Value)} : (q.1 = t.1.map Sum.inl ∧ ∃ k, q.2.2 = .int t.2 k) → TabR ts qs → TabR (t :: ts) (q :: qs)
structure KTab (P : Program) (w : World) (K : PySem.W.Frag) (d : Addr) (tab : List (List Int × Int)) : Prop where
  ex : ∃ (es : Array DictEntry) (ep : Nat) (xs : List (List Key × Addr × Value)), K.lookup d = some ⟨.type "dict", none, .dict es ep, #[]⟩ ∧ es.toList = xs.map (entryOfKey (tupleKind (mixKind P w))) ∧
    (∀ q ∈ xs, ∃ o its n, K.lookup q.2.1 = some o ∧ o.cls = .type "tuple" ∧ o.data = .seq its n ∧ ItemsAre (mixKind P w) q.1 its.toList) ∧ (xs.map (·.1)).Nodup ∧
    TabR tab xs
  low : (d == sysModules) = false
def tabGet (tab : List (List Int × Int)) (ns : List Int) : Dt := match tab.find? fun t => decide (t.1 = ns) with
  | some t => .int t.2
  | none => .non
def oKGet (tab : List (List Int × Int)) : Dt → Option Dt
  | .tup ds => match intsOf ds with
    | some ns => some (tabGet tab ns)
    | none => none
  | _ => none
theorem tab_rel {tab : List (List Int × Int)} {xs : List (List Key × Addr × Value)} (h : TabR tab xs) (ns : List Int) :
    (tabGet tab ns = .non ∧ (atKey xs (ns.map Sum.inl)).map (·.2) = none) ∨ ∃ i k, tabGet tab ns = .int i ∧ (atKey xs (ns.map Sum.inl)).map (·.2) = some (.int i k) := by
  induction h with
  | nil => exact .inl ⟨rfl, rfl⟩
  | @cons t q ts qs h _ ih =>
    obtain ⟨h1, k, h2⟩ := h
    by_cases e : t.1 = ns
    · refine .inr ⟨t.2, k, ?_, ?_⟩
      · simp [tabGet, List.find?_cons, e]
      · have : q.1 = ns.map Sum.inl := by rw [h1, e]
        simp [atKey, List.find?_cons, this, h2]
    · have e2 : ¬ q.1 = ns.map Sum.inl := fun z => e ((List.map_inj_right (fun _ _ h => Sum.inl.inj h)).mp (h1.symm.trans z))
      have a1 : tabGet (t :: ts) ns = tabGet ts ns := by simp [tabGet, List.find?_cons, e]
      have a2 : atKey (q :: qs) (ns.map Sum.inl) = atKey qs (ns.map Sum.inl) := by simp [atKey, List.find?_cons, e2]
      rw [a1, a2]
      exact ih
theorem se_kget {d : Addr} {tab : List (List Int × Int)} {f : M Dt} {apos : Pos} (hm : X.mg x = some (.ref d)) (T : KTab X.prog X.w X.K d tab) (hu : X.A.units + 1 < cLine) (he : SE X e f) (m : M1 X (.Name x p) "get" apos e pos) (hg : Gl X x := by rfl) (hdb : (x == ("__debug__" : Str)) = false := by decide) :
    SE X (.Call (.Attribute (.Name x p) "get" apos) [e] [] pos) (mBind f fun d => mLift (oKGet tab d)) := by
  obtain ⟨es, ep, xs, hk, hes, hkeys, hnd, hrel⟩ := T.ex
  refine ⟨fun pins s σ H Q I h => ?_⟩
  refine wpAny_Call_method m.base m.few m.line PySem.F.plainAttrs_dict PySem.F.slot_dict_get PySem.F.type_dict_get (thn ((pe_glob (v := .ref d) hg hm rfl hdb).run pins s σ H (fun v H1 => v = .ref d ∧ H1 = H) I ⟨rfl, rfl⟩) fun u s1 ⟨v, H1, I1, rx, ev, eH⟩ => ?_)
  subst ev eH
  obtain rfl : u = Value.ref d := rx
  have hd := I1.kIn d _ hk
  refine ⟨⟨_, hd, rfl⟩, fun b q => by cases q; exact ⟨_, hd, rfl⟩, ?_⟩
  rw [m.trees]
  obtain ⟨B, g, ρ, w, d', ρ', w', R, e1, k⟩ := h
  obtain ⟨dt, ρ1, w1, e2, e3⟩ := mBind_some e1
  obtain ⟨e4, rfl, rfl⟩ := mLift_some e3
  have hq : tE X.K f σ H1 (fun v H2 => ∃ a ns, v = .ref a ∧ SqT X.K H2 a (ns.map V.int) ∧ (tabGet tab ns = .non → Q .non H2) ∧ ∀ i, tabGet tab ns = .int i → Q (.int i) H2) := by
    refine ⟨B, g, ρ, w, dt, _, _, R, e2, fun v g' H' R' G rp => ?_⟩
    unfold oKGet at e4
    split at e4
    · split at e4
      · rename_i ns hns
        injection e4 with e4
        obtain ⟨a, ys, ev, hx, ry⟩ := rp
        rw [intsOf_some hns] at ry
        rw [ry.ints] at hx
        exact ⟨a, ns, ev, sqT_mono R'.sub hx, fun z => k _ g' H' R' G (by rw [← e4, z]; rfl), fun i z => k _ g' H' R' G (by rw [← e4, z]; rfl)⟩
      · cases e4
    · cases e4
  refine Calls.callWith_builtin rfl (Calls.evalArgs_plain (Calls.spliced_cons (thn (he.run pins s1 σ H1 _ I1 hq) fun iv s2 ⟨y, H2, I2, ry, a, ns, ey, hx, q1, q2⟩ => Calls.spliced_nil ?_)))
  subst ey
  cases (show iv = Value.ref a from ry)
  obtain ⟨its, rv, ⟨o, h1, h2, n, h3⟩, _⟩ := I2.tuple hx
  have key : (tupleKind (mixKind X.prog X.w)).is s2.heap (ns.map Sum.inl) a := by
    refine ⟨o, its.toArray, n, h1, h2, h3, ?_⟩
    have := items_are (P := X.prog) (w := X.w) (ks := ns.map Sum.inl) (us := its) (by rw [List.map_map]; exact rv)
    simpa using this
  have hd2 := I2.kIn d _ hk
  have dd : s2.heap.DictOfH (tupleKind (mixKind X.prog X.w)) d xs := ⟨_, es, ep, hd2, ⟨rfl, rfl, rfl⟩, rfl, hes, fun q hq => by
    obtain ⟨o, its, n, c1, c2, c3, c4⟩ := hkeys q hq
    exact ⟨o, its, n, I2.kIn _ _ c1, c2, c3, c4⟩, hnd⟩
  refine call_meetsIn PySem.F.slot_dict_get dd.typeIs PySem.F.entry_dict_get (PySem.F.args_dict_get_2 _ _) (meetsH_dict_get (tupleKind (mixKind X.prog X.w)) d a T.low) ⟨tupleKind_room_in1 hu, ns.map Sum.inl, xs, key, dd, ?_⟩
  rcases tab_rel hrel ns with ⟨z1, z2⟩ | ⟨i, t, z1, z2⟩
  · rw [z2]; exact ⟨.non, H2, I2.tok _, rfl, q1 z1⟩
  · rw [z2]; exact ⟨.int i, H2, I2.tok _, ⟨t, rfl⟩, q2 i z1⟩
theorem se_kgetE {tab : List (List Int × Int)} {f : M Dt} {apos : Pos} (h : ∃ d, X.mg x = some (.ref d) ∧ KTab X.prog X.w X.K d tab) (hu : X.A.units + 1 < cLine) (he : SE X e f) (m : M1 X (.Name x p) "get" apos e pos) (hg : Gl X x := by rfl) (hdb : (x == ("__debug__" : Str)) = false := by decide) :
    SE X (.Call (.Attribute (.Name x p) "get" apos) [e] [] pos) (mBind f fun d => mLift (oKGet tab d)) := by
  obtain ⟨d, hm, T⟩ := h
  exact se_kget hm T hu he m hg hdb
/-! xs.index(i), whole numbers -/
def oIndex (d : Dt) (ds : List Dt) : Option Dt := match d, ds with
  | .lst es, [.int i] => match intsOf es with
    | some ns => match ns.findIdx? (fun n => n == i) with
      | some j => some (.int (j : Nat))
      | none => none
    | none => none
  | _, _ => none
def fIndex (f : M Dt) (fa : M (List Dt)) : M Dt := mBind f fun d => mBind fa fun ds => mLift (oIndex d ds)
theorem flat_ints : ∀ ns : List Int, (ns.map V.int).all flatV = true
  | [] => rfl
  | n :: ns => by rw [List.map_cons, List.all_cons, flat_ints ns]; rfl
theorem se_index {o : Expr} {f : M Dt} {fd : M (List Dt)} {apos : Pos} (ho : SE X o f) (ha : SA X (e :: es) fd)
    (hbase : attributeBase o "index" X.env (eval o X.env) = eval o X.env := by rfl)
    (hfew : ((backTo pos (starEach (e :: es) X.env)).all (fun x => !x.1) && (backToKw pos (keywordEach [] X.env)).all (fun x => x.1.isSome)
      && decide ((e :: es).length + ([] : List Keyword).length + (if ([] : List Keyword).isEmpty then 0 else 1) < 30)) = true := by rfl)
    (hline : (apos.endLine == pos.line) = true := by rfl) (hs : starEach (e :: es) X.env = (false, eval e X.env) :: starEach es X.env := by rfl) (hplain : (backTo pos (starEach es X.env)).any (·.1) = false := by rfl) :
    SE X (.Call (.Attribute o "index" apos) (e :: es) [] pos) (fIndex f fd) :=
  pe_weak (pe_bm PySem.F.plainAttrs_list PySem.F.slot_list_index PySem.F.type_list_index mt_index ho ha hbase hfew hline hs hplain) fun σ H Q ⟨B, g, ρ, w, d', ρ', w', R, e1, k⟩ => by
    obtain ⟨d, ρ1, w1, e2, e3⟩ := mBind_some e1
    obtain ⟨ds, ρ2, w2, e4, e5⟩ := mBind_some e3
    obtain ⟨e6, rfl, rfl⟩ := mLift_some e5
    unfold oIndex at e6
    split at e6
    · rename_i es' i
      split at e6
      · rename_i ns hns
        split at e6
        · rename_i j hj
          injection e6 with e6
          refine ⟨B, g, ρ, w, _, ρ1, w1, R, e2, fun v g1 H1 R1 G1 rp => ?_⟩
          obtain ⟨a, ys, ev, hx, ry⟩ := rp
          rw [intsOf_some hns] at ry
          rw [ry.ints] at hx
          subst ev
          refine ⟨.inl ⟨rfl, _, SqL.of (R1.sub a _ hx)⟩, B, g1, ρ1, w1, _, _, _, R1, e4, fun vs g2 H2 R2 G2 rs => ?_⟩
          obtain ⟨v2, rfl, ev2⟩ := (show ∃ v2, vs = [v2] ∧ v2 = V.int i from by
            cases vs with
            | nil => exact rs.elim
            | cons v2 vs => cases vs with
              | nil => exact ⟨v2, rfl, rs.1⟩
              | cons _ _ => exact rs.2.elim)
          subst ev2
          rw [List.findIdx?_eq_some_iff_getElem] at hj
          obtain ⟨hlt, hp, hno⟩ := hj
          have hx2 : H2 a = some (.lst (ns.map V.int)) := R2.sub a _ (G2.1 a _ hx)
          refine ⟨a, _, .int i, j, .int ns[j], rfl, rfl, SqL.of hx2, rfl, flat_ints ns, by rw [List.getElem?_map, List.getElem?_eq_getElem hlt]; rfl, hp, fun m z' hm hz => ?_, ?_⟩
          · rw [List.getElem?_map, List.getElem?_eq_getElem (Nat.lt_trans hm hlt)] at hz
            cases hz
            have := hno m hm
            exact Bool.eq_false_iff.mpr this
          · exact k _ g2 H2 R2 (G1.trans G2) (by rw [← e6]; rfl)
        · cases e6
      · cases e6
    · cases e6
/-! the table's facts by one look -/
def intsB : List Int → List Value → Bool
  | [], [] => true
  | i :: is, .int j _ :: vs => decide (i = j) && intsB is vs
  | _, _ => false
theorem intsB_are {P : Program} {w : World} : ∀ {is : List Int} {vs : List Value}, intsB is vs = true → ItemsAre (mixKind P w) (is.map Sum.inl) vs
  | [], [], _ => .nil
  | i :: is, .int j t :: vs, h => by
    obtain ⟨h1, h2⟩ := Bool.and_eq_true_iff.mp h
    have e := of_decide_eq_true h1
    subst e
    exact .cons (keyIs_int i t) (intsB_are h2)
def keyB (K : PySem.W.Frag) (ks : List Int) (a : Addr) : Bool := match K.lookup a with
  | some ⟨.type t, _, .seq its _, _⟩ => decide (t = "tuple") && intsB ks its.toList
  | _ => false
theorem keyB_is {P : Program} {w : World} {K : PySem.W.Frag} {ks : List Int} {a : Addr} (h : keyB K ks a = true) : ∃ o its n, K.lookup a = some o ∧ o.cls = .type "tuple" ∧ o.data = .seq its n ∧ ItemsAre (mixKind P w) (ks.map Sum.inl) its.toList := by
  unfold keyB at h
  split at h
  · rename_i t dd its n sl e
    obtain ⟨h1, h2⟩ := Bool.and_eq_true_iff.mp h
    have e1 := of_decide_eq_true h1
    subst e1
    exact ⟨_, its, n, e, rfl, rfl, intsB_are h2⟩
  · cases h
def tabB (P : Program) (w : World) (K : PySem.W.Frag) : List (List Int × Int) → List DictEntry → Bool
  | [], [] => true
  | t :: ts, ⟨h, .ref a, .int i _⟩ :: es => keyB K t.1 a && decide (i = t.2) && decide (h = tupleKeyHash (mixKind P w) (t.1.map Sum.inl)) && tabB P w K ts es
  | _, _ => false
theorem tabB_is {P : Program} {w : World} {K : PySem.W.Frag} : ∀ {tab : List (List Int × Int)} {es : List DictEntry}, tabB P w K tab es = true → ∃ xs : List (List Key × Addr × Value), es = xs.map (entryOfKey (tupleKind (mixKind P w))) ∧
    (∀ q ∈ xs, ∃ o its n, K.lookup q.2.1 = some o ∧ o.cls = .type "tuple" ∧ o.data = .seq its n ∧ ItemsAre (mixKind P w) q.1 its.toList) ∧ xs.map (·.1) = tab.map (fun t => t.1.map Sum.inl) ∧ TabR tab xs
  | [], [], _ => ⟨[], rfl, fun q hq => absurd hq (List.not_mem_nil), rfl, .nil⟩
  | t :: ts, ⟨h, .ref a, .int i k⟩ :: es, hb => by
    unfold tabB at hb
    simp only [Bool.and_eq_true, decide_eq_true_eq] at hb
    obtain ⟨⟨⟨h1, h2⟩, h3⟩, h4⟩ := hb
    obtain ⟨xs, e1, e2, e3, e4⟩ := tabB_is h4
    refine ⟨(t.1.map Sum.inl, a, .int i k) :: xs, ?_, ?_, ?_, ?_⟩
    · rw [List.map_cons, ← e1]
      subst h3; rfl
    · intro q hq
      rcases List.mem_cons.mp hq with z | hq
      · subst z; exact keyB_is h1
      · exact e2 q hq
    · rw [List.map_cons, List.map_cons, e3]
    · exact .cons ⟨rfl, k, by rw [← h2]⟩ e4
theorem ktab_mk {P : Program} {w : World} {K : PySem.W.Frag} {d : Addr} {tab : List (List Int × Int)} {es : Array DictEntry} {ep : Nat} (hk : K.lookup d = some ⟨.type "dict", none, .dict es ep, #[]⟩) (hb : tabB P w K tab es.toList = true)
    (hn : (tab.map (·.1)).Nodup) (low : (d == sysModules) = false) : KTab P w K d tab := by
  obtain ⟨xs, e1, e2, e3, e4⟩ := tabB_is hb
  refine ⟨⟨es, ep, xs, hk, e1, e2, ?_, e4⟩, low⟩
  rw [e3]
  have : tab.map (fun t => t.1.map (Sum.inl : Int → Key)) = (tab.map (·.1)).map (fun ks => ks.map Sum.inl) := by rw [List.map_map]; rfl
  rw [this]
  exact List.Pairwise.map _ (fun a b hab z => hab ((List.map_inj_right (fun _ _ h => Sum.inl.inj h)).mp z)) hn
end
end Lw

end
section
set_option Elab.async false
set_option linter.all false
set_option maxRecDepth 100000
set_option maxHeartbeats 2000000
namespace Lw
open PySem PySem.Spec L2
open PyProof.Rows (envOfC)
section
variable {X : Cx} {pos : Pos}
/-! is True, is False -/
def oIsB : Dt → Dt → Option Dt
  | .bl a, .bl b => some (.bl (decide (a = b)))
  | _, _ => none
def oIsNotB : Dt → Dt → Option Dt
  | .bl a, .bl b => some (.bl (!decide (a = b)))
  | _, _ => none
theorem r_isB {K : PySem.W.Frag} : Op2 K rIsB oIsB := fun g H x y dx dy d Q hs vx vy e k => by
  unfold oIsB at e
  split at e
  · cases e; cases vx; cases vy
    exact ⟨_, _, rfl, rfl, k.bl⟩
  · cases e
theorem r_isnotB {K : PySem.W.Frag} : Op2 K rNotB oIsNotB := fun g H x y dx dy d Q hs vx vy e k => by
  unfold oIsNotB at e
  split at e
  · cases e; cases vx; cases vy
    exact ⟨_, _, rfl, rfl, k.bl⟩
  · cases e
/-! {1: 2, ..}[x], whole numbers -/
def trsI (kv : List (Int × Int)) : List (TE × TE) := kv.map fun q => (tC (.int q.1), tC (.int q.2))
def kvI (kv : List (Int × Int)) : List (Key × V) := kv.map fun q => (Sum.inl q.1, V.int q.2)
theorem trsI_run {σ : St} {H : Hp} : ∀ {kv : List (Int × Int)} {R : List (V × V) → Hp → Prop}, R ((kvI kv).map fun q => (kV q.1, q.2)) H → tPairs (trsI kv) σ H R
  | [], _, h => h
  | q :: kv, R, h => trsI_run (kv := kv) (R := fun ps H3 => R ((V.int q.1, V.int q.2) :: ps) H3) h
theorem merge_val : ∀ (more acc : List (Key × V)) (k : Key), valV (mergeK acc more) k = match (more.reverse.find? fun q => decide (q.1 = k)) with
    | some q => some q.2
    | none => valV acc k
  | [], acc, k => rfl
  | q :: more, acc, k => by
    show valV (mergeK (putK acc q.1 q.2) more) k = _
    rw [merge_val more, List.reverse_cons, List.find?_append]
    cases h : more.reverse.find? fun q => decide (q.1 = k) with
    | some z => simp
    | none =>
      simp only [Option.none_or, List.find?_cons, List.find?_nil]
      rw [valV_put]
      by_cases e : q.1 = k
      · simp [e]
      · have e2 : ¬ k = q.1 := fun z => e z.symm
        simp [e, e2]
def dispI (kv : List (Int × Int)) : Dt → Option Dt
  | .int i => match kv.reverse.find? fun q => decide (q.1 = i) with
    | some q => some (.int q.2)
    | none => none
  | _ => none
theorem kvI_find (i : Int) : ∀ kv : List (Int × Int), ((kvI kv).find? fun q => decide (q.1 = Sum.inl i)) = (kv.find? fun q => decide (q.1 = i)).map fun q => (Sum.inl q.1, V.int q.2)
  | [] => rfl
  | q :: kv => by
    show (((Sum.inl q.1 : Key), V.int q.2) :: kvI kv).find? _ = _
    rw [List.find?_cons, List.find?_cons, kvI_find i kv]
    by_cases e : q.1 = i
    · simp [e]
    · have e2 : ¬ (Sum.inl q.1 : Key) = Sum.inl i := fun z => e (Sum.inl.inj z)
      simp [e, e2]
def fRead (i : Nat) : M Dt := fun ρ w => match ρ[i]? with
  | some (some (.fr d)) => some (d, ρ, w)
  | _ => none
theorem se_dispIx (kv : List (Int × Int)) (i : Nat) {keys : List (Option Expr)} {values : List Expr} {e : Expr} {dp : Pos} (hu : X.A.units + 1 < cLine) (h : PPs X dp keys values (trsI kv)) (hi : PE X e (tVar i)) (hall : keys.all (·.isSome) = true := by rfl) (hl : keys.length = values.length := by rfl)
    (h0 : keys ≠ [] := by intro h; cases h) (h15 : keys.length ≤ 15 := by decide) (hk : kv.length ≤ 15 := by decide) (hs : NoSl e := by intro _ _; rfl) : SE X (.Subscript (.Dict keys values dp) e pos) (mBind (fRead i) fun d => mLift (dispI kv d)) :=
  pe_weak (pe_dget hu (pe_disp h hall hl h0 h15) hi hs) fun σ H Q ⟨B, g, ρ, w, d, ρ', w', R, e1, k⟩ => by
    obtain ⟨dt, ρ1, w1, e2, e3⟩ := mBind_some e1
    obtain ⟨e4, rfl, rfl⟩ := mLift_some e3
    unfold fRead at e2
    split at e2
    · rename_i d' hd'
      cases e2
      obtain ⟨o, eo, v, ev, rr⟩ := R.slots i _ hd'
      subst ev
      unfold dispI at e4
      split at e4
      · rename_i n
        cases rr
        split at e4
        · rename_i q hq
          cases e4
          intro p hp
          refine trsI_run ⟨upd_same, kvI kv, rfl, by unfold kvI; rw [List.length_map]; exact hk, ?_⟩
          refine ⟨_, eo, p, .int q.2, rfl, .inl ⟨_, .inl n, .inl upd_same, rfl, ?_⟩, ?_⟩
          · rw [merge_val]
            have : (kvI kv).reverse = kvI kv.reverse := by unfold kvI; rw [List.map_reverse]
            rw [this, kvI_find, hq]; rfl
          · refine k _ g _ (R.grow ⟨rfl, rfl, fun a o ho => ?_, fun a o ho => ho, fun a o ho => .inl ho⟩) (.refl g) rfl
            have : a ≠ p := fun z => by rw [z, hp] at ho; cases ho
            rw [upd_ne this, upd_ne this]; exact ho
        · cases e4
      · cases e4
    · cases e2
end
/-! comprehensions, whatever stood in the slot -/
theorem wipeG {ρ : En} {i : Nat} {u : Option Sl} : wipeE (ρ.set i u) [i] = ρ.set i none := by
  simp only [wipeE]
  rw [List.set_set]
theorem wipeG0 {ρ : En} {i : Nat} : wipeE ρ [i] = ρ.set i none := rfl
theorem lc_intsG {fi : M (List Dt)} {fc : M Bool} {fe : M Dt} {ρ : En} {w : Wd} {i : Nat} (ns : List Int) (b : Int → Bool) (g : Int → Int) (hf : fi ρ w = some (iD ns, ρ, w))
    (hc : ∀ n ∈ ns, fc (ρ.set i (some (.fr (.int n)))) w = some (b n, ρ.set i (some (.fr (.int n))), w))
    (he : ∀ n ∈ ns, b n = true → fe (ρ.set i (some (.fr (.int n)))) w = some (.int (g n), ρ.set i (some (.fr (.int n))), w)) (hl : ns.length ≤ 16777216) :
    nLc (ftN i) fi fc fe [i] ρ w = some (iD ((ns.filter b).map g), ρ.set i none, w) := by
  have e : ((iD ns).filter (fun d => match d with | .int n => b n | _ => false)).map (fun d => match d with | .int n => .int (g n) | d => d) = iD ((ns.filter b).map g) := by
    unfold iD; rw [List.filter_map, List.map_map, List.map_map]; rfl
  rw [nLc_filter (ρ0 := ρ.set i none) (w1 := w) (fun d => match d with | .int n => b n | _ => false) (fun d => match d with | .int n => .int (g n) | d => d) hf wipeG0 ?_ (by simpa [iD] using hl), e]
  intro d hd
  obtain ⟨n, hn, rfl⟩ := List.mem_map.mp hd
  refine ⟨ρ.set i (some (.fr (.int n))), ?_, hc n hn, he n hn, wipeG⟩
  show some ((ρ.set i none).set i _) = _
  rw [List.set_set]
/-- every item becomes d -/
theorem lc_bls {fi : M (List Dt)} {fc : M Bool} {fe : M Dt} {ρ : En} {w : Wd} {i : Nat} (ns : List Int) (b : Int → Bool) (g : Int → Bool) (hf : fi ρ w = some (iD ns, ρ, w))
    (hc : ∀ n ∈ ns, fc (ρ.set i (some (.fr (.int n)))) w = some (b n, ρ.set i (some (.fr (.int n))), w))
    (he : ∀ n ∈ ns, b n = true → fe (ρ.set i (some (.fr (.int n)))) w = some (.bl (g n), ρ.set i (some (.fr (.int n))), w)) (hl : ns.length ≤ 16777216) :
    nLc (ftN i) fi fc fe [i] ρ w = some (((ns.filter b).map g).map Dt.bl, ρ.set i none, w) := by
  have e : ((iD ns).filter (fun d => match d with | .int n => b n | _ => false)).map (fun d => match d with | .int n => .bl (g n) | d => d) = ((ns.filter b).map g).map Dt.bl := by
    unfold iD; rw [List.filter_map, List.map_map, List.map_map]; rfl
  rw [nLc_filter (ρ0 := ρ.set i none) (w1 := w) (fun d => match d with | .int n => b n | _ => false) (fun d => match d with | .int n => .bl (g n) | d => d) hf wipeG0 ?_ (by simpa [iD] using hl), e]
  intro d hd
  obtain ⟨n, hn, rfl⟩ := List.mem_map.mp hd
  refine ⟨ρ.set i (some (.fr (.int n))), ?_, hc n hn, he n hn, wipeG⟩
  show some ((ρ.set i none).set i _) = _
  rw [List.set_set]
def bP (bs : List Bool) : List PyData := bs.map PyData.bool
theorem pyL_bl : ∀ bs : List Bool, Dt.pyL (bs.map Dt.bl) = some (bP bs)
  | [] => rfl
  | n :: ns => by
    show (match Dt.py (.bl n) with | some x => (match Dt.pyL (ns.map Dt.bl) with | some xs => some (x :: xs) | none => none) | none => none) = _
    rw [pyL_bl ns, py_bl]; rfl
theorem lay_bP : ∀ ns : List Bool, PyData.canLayAll0 (bP ns) = true
  | [] => by simp [bP, PyData.canLayAll0]
  | n :: ns => by
    have := lay_bP ns
    simp only [bP, List.map_cons, PyData.canLayAll0, PyData.canLay0, Bool.true_and] at this ⊢
    exact this
theorem dep_bP : ∀ ns : List Bool, PyData.depthAll (bP ns) = 0
  | [] => by simp [bP, PyData.depthAll]
  | n :: ns => by
    have := dep_bP ns
    simp only [bP, List.map_cons, PyData.depthAll, PyData.depth] at this ⊢
    rw [this]; rfl
theorem shp_bP (ns : List Bool) : SeqAt.shaped (.list (bP ns)) = true := by simp [SeqAt.shaped, PyData.canLay0, PyData.depth, lay_bP, dep_bP]
theorem any_bls (x : Bool) : ∀ ns : List Bool, ((bP ns).any fun z => PyData.eqv z (.bool x)) = decide (x ∈ ns)
  | [] => by simp [bP]
  | n :: ns => by
    have := any_bls x ns
    simp only [bP, List.map_cons, List.any_cons, PyData.eqv] at this ⊢
    rw [this]
    by_cases h : n = x
    · simp [h]
    · have h2 : ¬ x = n := fun e => h e.symm
      simp [h, h2]
theorem in_bls (x : Bool) (ns : List Bool) : oIn (.bl x) (.lst (ns.map Dt.bl)) = some (.bl (decide (x ∈ ns))) := by
  unfold oIn
  have e : (Dt.lst (ns.map Dt.bl)).py = some (.list (bP ns)) := by rw [Dt.py, pyL_bl]
  simp only [py_bl, e, shp_bl, shp_bP, Bool.and_self, if_true, any_bls]
end Lw

end
section
set_option Elab.async false
set_option linter.all false
set_option maxRecDepth 100000
set_option maxHeartbeats 2000000
namespace Lw
open PySem PySem.Spec L2
open PyProof.Rows (envOfC)

/-! ### dicts of one's own (keys: whole numbers, texts) -/
abbrev Dk := List Key × List Dt
def tNK (K : PySem.W.Frag) (f : M Dk) : TE := fun σ H Q => ∃ B g ρ w ds ρ' w', Rel K B g H σ ρ w ∧ f ρ w = some (ds, ρ', w') ∧
  ∀ a kv g' H', Rel K B g' H' σ ρ' w' → Gle g g' → H' a = some (.dK kv) → kv.map (·.1) = ds.1 → RpL K g' ds.2 (kv.map (·.2)) → OwnA B g' a → (∀ j, owAt ρ' j → g'.ad j ≠ a) → Q (.ref a) H'
abbrev SNK (X : Cx) (e : Expr) (f : M Dk) : Prop := PE X e (tNK X.K f)
def nK0 : M Dk := mRet ([], [])
def setOwK (i : Nat) (s : Dk) : M Fl := fun ρ w => some (.nx, ρ.set i (some (.owK s.1 s.2)), w)
def fSetNK (i : Nat) (f : M Dk) : M Fl := mBind f fun s => setOwK i s
def amK (f : M Dk) (k : M (List Sl)) : M (List Sl) := mBind f fun d => mBind k fun ss => mRet (.owK d.1 d.2 :: ss)
section
variable {X : Cx} {pos : Pos} {e : Expr} {es : List Expr}
theorem snk_0 : SNK X (.Dict [] [] pos) nK0 :=
  pe_weak pe_dnewK fun σ H Q ⟨B, g, ρ, w, d, ρ', w', R, e, k⟩ => by
    cases e
    intro p hp
    obtain ⟨o, ne⟩ := R.newOwn hp
    exact k p [] g _ (R.lay hp) (.refl g) upd_same rfl trivial o ne
theorem se_of_k {f : M Dk} (h : SNK X e f) : SE X e (mBind f fun s => mRet (.dct s.1 s.2)) :=
  pe_weak (pe_seal h) fun σ H Q ⟨B, g, ρ, w, d, ρ', w', R, e, k⟩ => by
    obtain ⟨ds, ρ1, w1, e1, e2⟩ := mBind_some e
    cases e2
    refine ⟨B, g, ρ, w, ds, _, _, R, e1, fun a kv g1 H1 R1 l1 hx hk rx o ne => .inr ⟨a, _, hx, trivial, fun od => ?_⟩⟩
    have l2 := Gle.put (g := g1) (p := a) (o := .frz od (.dK kv)) o.F
    refine k _ (g1.put a (.frz od (.dK kv))) _ ((R1.updOwn (u := .frz od (.dK kv)) hx o ne).know o upd_same rfl (fun i s es => ?_) R1.sep) (l1.trans l2) ⟨a, kv, rfl, ⟨od, put_at⟩, hk, rx.mono l2⟩
    obtain ⟨v, ev, q⟩ := (R1.updOwn (u := .frz od (.dK kv)) hx o ne).slots i s es
    exact ⟨v, ev, q.put o.F fun h => ne i ⟨s, es, h⟩⟩
theorem ss_setNK (i : Nat) {x : Str} {pos' : Pos} {f : M Dk} (he : SNK X e f) (hN : X.N.Nodup) (hi : X.N[i]? = some x := by rfl) (hx : Loc X.env.scope x := by first | exact Or.inl rfl | exact Or.inr rfl) (hs : swapsWith e (some (.Name x pos')) pos.line X.env = pure false := by rfl)
    (hf : X.fn x = true ∨ X.env.scope.names.lookup x = some .local := by first | exact .inl rfl | exact .inr rfl) : SS X (.Assign [.Name x pos'] e pos) (fSetNK i f) :=
  ps_weak (ps_set (i := i) hN hi hx he hs hf) fun D σ H ⟨B, g, ρ, w, r, ρ', w', R, e, q⟩ => by
    obtain ⟨ds, ρ1, w1, e1, e2⟩ := mBind_some e
    cases e2
    refine ⟨B, g, ρ, w, ds, _, _, R, e1, fun a kv g' H' R' l hx hk rx o ne => ?_⟩
    refine q _ { g' with ad := fun j => if j = i then a else g'.ad j } H' (R'.setOw (i := i) (t := .owK ds.1 ds.2) o ne ⟨?_, ?_, kv, ?_, hk, RpL.mono Gle.ad rx⟩) ⟨l.F, l.S⟩
    · show some (V.ref a) = some (V.ref (if i = i then a else g'.ad i)); rw [if_pos rfl]
    · show OwnA B _ (if i = i then a else g'.ad i); rw [if_pos rfl]; exact o.ad
    · show H' (if i = i then a else g'.ad i) = _; rw [if_pos rfl]; exact hx
theorem sam_k {f : M Dk} {k : M (List Sl)} (h : SNK X e f) (hk : SAM X es k) (hs : starEach (e :: es) X.env = (false, eval e X.env) :: starEach es X.env := by rfl) : SAM X (e :: es) (amK f k) :=
  pa_weak (pa_cons h hk hs) fun σ H Q ⟨B, g, ρ, w, d, ρ', w', R, e, q⟩ => by
    obtain ⟨x, ρ1, w1, e1, f1⟩ := mBind_some e
    obtain ⟨ss, ρ2, w2, e2, f2⟩ := mBind_some f1
    cases f2
    refine ⟨B, g, ρ, w, x, ρ1, w1, R, e1, fun p kv g1 H1 R1 l1 hx hk rx o ne => ⟨B.pin p (.dK kv), g1, ρ1, w1, ss, _, _, R1.pin hx o ne, e2, fun vs B' g2 H2 R2 l2 p2 => ?_⟩⟩
    obtain ⟨u1, u2⟩ := p2.up
    obtain ⟨hF, _, hS⟩ := R2.hid p (u1 p (.inr rfl))
    have hx2 : H2 p = some (.dK kv) := R2.keep p _ (u2 p _ (by show upd B.Fr p (.dK kv) p = _; exact upd_same))
    exact q (.ref p :: vs) B' g2 H2 R2 (l1.trans l2) ⟨p, kv, rfl, ⟨hF, o.Fr, o.H0, o.hid, hS⟩, hx2, ⟨hk, rx.mono l2⟩, p2⟩

/-! d[k] = v -/
def isOwK (i : Nat) : M Unit := fun ρ w => match ρ[i]? with
  | some (some (.owK _ _)) => some ((), ρ, w)
  | _ => none
def mPutK (i : Nat) (d k : Dt) : M Fl := fun ρ w => match ρ[i]? with
  | some (some (.owK ks ds)) => match asK k with
    | some q => if decide (ks.length < sizeLine) then some (.nx, ρ.set i (some (.owK (putKs ks q) (putKd ks ds q d))), w) else none
    | none => none
  | _ => none
def fPutK (i : Nat) (fk fv : M Dt) : M Fl := mBind fv fun d => mBind (isOwK i) fun _ => mBind fk fun k => mPutK i d k
theorem isOwK_some {i : Nat} {ρ ρ' : En} {w w' : Wd} {u : Unit} (h : isOwK i ρ w = some (u, ρ', w')) : ρ' = ρ ∧ w' = w ∧ ∃ ks ds, ρ[i]? = some (some (.owK ks ds)) := by
  unfold isOwK at h
  split at h
  · rename_i ks ds e; cases h; exact ⟨rfl, rfl, ks, ds, e⟩
  · cases h
theorem ss_putK (i : Nat) {x : Str} {px sp : Pos} {ix : Expr} {fk fv : M Dt} (hu : X.A.units + 1 < cLine) (he : SE X e fv) (hi : SE X ix fk) (hN : X.N[i]? = some x := by rfl)
    (hm : ∀ {te ti : TE}, PE X e te → PE X ix ti → PS X (.Assign [.Subscript (.Name x px) ix sp] e pos) (sDPut (tVar i) ti te)) :
    SS X (.Assign [.Subscript (.Name x px) ix sp] e pos) (fPutK i fk fv) :=
  ps_weak (hm he hi) fun D σ H ⟨B, g, ρ, w, r, ρ', w', R, e, q⟩ => by
    obtain ⟨d, ρ1, w1, e1, f1⟩ := mBind_some e
    obtain ⟨u, ρ2, w2, e2, f2⟩ := mBind_some f1
    obtain ⟨rfl, rfl, ks0, ds0, hds0⟩ := isOwK_some e2
    obtain ⟨k, ρ3, w3, e3, f3⟩ := mBind_some f2
    refine ⟨B, g, ρ, w, d, _, _, R, e1, fun v g1 H1 R1 l1 r1 => ?_⟩
    obtain ⟨hσ, own, _⟩ := R1.owned hds0 rfl
    refine ⟨_, hσ, B, g1, _, _, k, ρ3, w3, R1, e3, fun iv g2 H2 R2 l2 q2 => ?_⟩
    unfold mPutK at f3
    split at f3
    · rename_i ks ds hds
      split at f3
      · rename_i n hn
        obtain ⟨hlt, f3⟩ := ite_some f3
        cases f3
        rw [asK_some hn] at q2
        have vi := rp_kD_is q2
        subst vi
        obtain ⟨hσ2, own2, _⟩ := R2.owned hds rfl
        obtain ⟨v2, ev2, q2'⟩ := R2.slots i _ hds
        obtain ⟨_, _, kv, hx, hk, rx⟩ := q2'
        have ea : g1.ad i = g2.ad i := by
          rw [hσ] at hσ2; injection hσ2 with z; injection z with z; injection z
        subst hk
        obtain ⟨h1, h2⟩ := putK_rp (q := n) (r1.mono l2) rx
        have hlt' := of_decide_eq_true hlt
        rw [List.length_map] at hlt'
        refine ⟨g1.ad i, _, rfl, .inl ⟨kv, n, by rw [ea]; exact hx, rfl, hlt', rfl⟩, ?_⟩
        rw [ea]
        exact q σ g2 _ (R2.mut hds rfl rfl ⟨rfl, own2, _, upd_same, h1, h2⟩) (l1.trans l2)
      · cases f3
    · cases f3

/-! d.get(k), d.get(k, x) -/
def isDc : Dt → Bool
  | .dct _ _ => true
  | _ => false
def oGet (d k x : Dt) : Option Dt := match d with
  | .dct ks vs => (asK k).map fun q => (getK ks vs q).getD x
  | _ => none
def fGet1 (fd : M RV) (fk : M Dt) : M Dt := mBind fd fun r => mBind (mRd r) fun d0 => if isDc d0 then mBind fk fun k => mBind (mRd r) fun d => mLift (oGet d k .non) else mFail
def fGet2 (fd : M RV) (fk fx : M Dt) : M Dt := mBind fd fun r => mBind (mRd r) fun d0 => if isDc d0 then mBind fk fun k => mBind fx fun x => mBind (mRd r) fun d => mLift (oGet d k x) else mFail
theorem isDc_vw {K : PySem.W.Frag} {g : Gh} {H : Hp} {d : Dt} {v : V} (h : isDc d = true) (r : Vw K g H d v) : ∃ a, v = .ref a ∧ IsD H a := by
  cases d <;> first | cases h | skip
  obtain ⟨a, kv, e, hx, _⟩ := r
  exact ⟨a, e, .inl ⟨kv, hx⟩⟩
theorem get_rp {K : PySem.W.Frag} {g : Gh} {H : Hp} {d k x z : Dt} {v y u : V} (e : oGet d k x = some z) (r : Vw K g H d v) (rk : Rp K g k y) (rx : Rp K g x u) : ∃ a o, v = .ref a ∧ DGet H a y o ∧ Rp K g z (o.getD u) := by
  unfold oGet at e
  split at e
  · obtain ⟨q, hq, e2⟩ := Option.map_eq_some_iff.mp e
    subst e2
    obtain ⟨a, kv, ev, hx, hk, rr⟩ := r
    subst hk
    rw [asK_some hq] at rk
    rw [rp_kD_is rk]
    refine ⟨a, valV kv q, ev, .inl ⟨kv, q, hx, rfl, rfl⟩, ?_⟩
    cases z : getK (kv.map (·.1)) _ q with
    | none => rw [getK_none rr z]; exact rx
    | some d => obtain ⟨v', h1, h2⟩ := getK_rp rr z; rw [h1]; exact h2
  · cases e
theorem se_get1 {o f : Expr} {ap : Pos} {fd : M RV} {fk : M Dt} (hu : X.A.units + 1 < cLine) (ho : SR X o fd) (hk : SE X f fk) (m : M1 X o "get" ap f pos) : SE X (.Call (.Attribute o "get" ap) [f] [] pos) (fGet1 fd fk) :=
  pe_weak (pe_dget1 hu ho hk m) fun σ H Q ⟨B, g, ρ, w, d, ρ', w', R, e, k⟩ => by
    obtain ⟨r, ρ1, w1, e1, f1⟩ := mBind_some e
    obtain ⟨d0, ρ2, w2, e2, f2⟩ := mBind_some f1
    obtain ⟨h2, rfl, rfl⟩ := mRd_some e2
    obtain ⟨hd, f2⟩ := ite_fail f2
    obtain ⟨kk, ρ3, w3, e3, f3⟩ := mBind_some f2
    obtain ⟨dd, ρ4, w4, e4, f4⟩ := mBind_some f3
    obtain ⟨h4, rfl, rfl⟩ := mRd_some e4
    obtain ⟨h5, rfl, rfl⟩ := mLift_some f4
    refine ⟨B, g, ρ, w, r, _, _, R, e1, fun v g1 H1 R1 l1 q1 => ?_⟩
    obtain ⟨a, ea, ha⟩ := isDc_vw hd (R1.view q1 h2)
    refine ⟨a, ea, ha, B, g1, _, _, kk, _, _, R1, e3, fun y g2 H2 R2 l2 q2 => ?_⟩
    obtain ⟨a2, o, ea2, g3, rz⟩ := get_rp h5 (R2.view (q1.mono l2) h4) q2 (u := .non) rfl
    rw [ea] at ea2; cases ea2
    exact ⟨o, g3, k _ g2 H2 R2 (l1.trans l2) rz⟩
theorem se_get2 {o f f2 : Expr} {ap : Pos} {fd : M RV} {fk fx : M Dt} (hu : X.A.units + 1 < cLine) (ho : SR X o fd) (hk : SE X f fk) (hx : SE X f2 fx) (m : M2 X o "get" ap f f2 pos) : SE X (.Call (.Attribute o "get" ap) [f, f2] [] pos) (fGet2 fd fk fx) :=
  pe_weak (pe_dget2 hu ho hk hx m) fun σ H Q ⟨B, g, ρ, w, d, ρ', w', R, e, k⟩ => by
    obtain ⟨r, ρ1, w1, e1, f1⟩ := mBind_some e
    obtain ⟨d0, ρ2, w2, e2, f2⟩ := mBind_some f1
    obtain ⟨h2, rfl, rfl⟩ := mRd_some e2
    obtain ⟨hd, f2⟩ := ite_fail f2
    obtain ⟨kk, ρ3, w3, e3, f3⟩ := mBind_some f2
    obtain ⟨xx, ρ5, w5, e5, f5⟩ := mBind_some f3
    obtain ⟨dd, ρ4, w4, e4, f4⟩ := mBind_some f5
    obtain ⟨h4, rfl, rfl⟩ := mRd_some e4
    obtain ⟨h5, rfl, rfl⟩ := mLift_some f4
    refine ⟨B, g, ρ, w, r, _, _, R, e1, fun v g1 H1 R1 l1 q1 => ?_⟩
    obtain ⟨a, ea, ha⟩ := isDc_vw hd (R1.view q1 h2)
    refine ⟨a, ea, ha, B, g1, _, _, kk, _, _, R1, e3, fun y g2 H2 R2 l2 q2 => ⟨B, g2, _, _, xx, _, _, R2, e5, fun z g3 H3 R3 l3 q3 => ?_⟩⟩
    obtain ⟨a2, o, ea2, g3', rz⟩ := get_rp h5 (R3.view (q1.mono (l2.trans l3)) h4) (q2.mono l3) q3
    rw [ea] at ea2; cases ea2
    exact ⟨o, g3', k _ g3 H3 R3 (l1.trans (l2.trans l3)) rz⟩

/-! walks over d.items(), d.values() -/
def prL (ks : List Key) (vs : List Dt) : List Dt := (ks.zip vs).map fun p => .tup [kD p.1, p.2]
def itemsD : Dt → Option (List Dt)
  | .dct ks vs => some (prL ks vs)
  | _ => none
def valuesD : Dt → Option (List Dt)
  | .dct _ vs => some vs
  | _ => none
def iItemsD (f : M Dt) : M (List Dt) := mBind f fun d => mLift (itemsD d)
def iValuesD (f : M Dt) : M (List Dt) := mBind f fun d => mLift (valuesD d)
theorem wk_items {K : PySem.W.Frag} {g : Gh} {a : Addr} {od : Obj} {kv : List (Key × V)} {vs : List Dt} (h : g.F a = some (.frz od (.dK kv))) (r : RpL K g vs (kv.map (·.2))) : Wk K g (Iti a od kv) (prL (kv.map (·.1)) vs) :=
  ⟨⟨_, _, by
      have e : (prL (kv.map (·.1)) vs).length = kv.length := by unfold prL; have := r.length; simp at this ⊢; omega
      rw [e]; exact walk_items (d := a) (o := od) (kvs := kv), fun g' H l s => s _ _ (l.F _ _ h), fun i x H1 H2 g' hi l s y => by
    obtain ⟨T, u, v, rfl, hT, rfl, hu, hv⟩ := y
    have hu : kv[i]?.map (fun kv => kV kv.1) = some u := hu
    have hv : kv[i]?.map Prod.snd = some v := hv
    cases hk : kv[i]? with
    | none => rw [hk] at hu; cases hu
    | some p =>
      rw [hk] at hu hv
      cases hu; cases hv
      obtain ⟨d, hd, q⟩ := r.get' (i := i) (v := p.2) (by rw [List.getElem?_map, hk]; rfl)
      obtain ⟨g2, G, rp⟩ := pair_new (d := kD p.1) (x := kV p.1) s hT rp_kD (q.mono l)
      refine ⟨.tup [kD p.1, d], g2, ?_, G, rp⟩
      unfold prL
      rw [List.getElem?_map, (List.getElem?_zip_eq_some (z := (p.1, d))).mpr ⟨by rw [List.getElem?_map, hk]; rfl, hd⟩]
      rfl⟩⟩
theorem wk_values {K : PySem.W.Frag} {g : Gh} {a : Addr} {od : Obj} {kv : List (Key × V)} {vs : List Dt} (h : g.F a = some (.frz od (.dK kv))) (r : RpL K g vs (kv.map (·.2))) : Wk K g (Itd a od kv) vs :=
  ⟨⟨_, _, by
      have e : vs.length = kv.length := by have := r.length; simpa using this
      rw [e]; exact walk_values (d := a) (o := od) (kvs := kv), fun g' H l s => s _ _ (l.F _ _ h), fun i x H1 H2 g' hi l s y => by
    obtain ⟨rfl, k, hk⟩ := y
    obtain ⟨d, hd, q⟩ := r.get' (i := i) (v := x) (by rw [List.getElem?_map, hk]; rfl)
    exact ⟨d, g', hd, .refl _ _, q.mono l⟩⟩⟩
theorem si_items {elts : List Expr} {kk : Nat} {tpos ap : Pos} {f : M Dt} (h : SE X e f) (hb : attributeBase e "items" X.env (eval e X.env) = eval e X.env := by rfl) (hl : (ap.endLine == pos.line) = true := by rfl) :
    SI X (.Tuple elts kk tpos) (.Call (.Attribute e "items" ap) [] [] pos) (iItemsD f) :=
  pi_weak (pi_items h hb hl) fun σ H Q ⟨B, g, ρ, w, ds, ρ', w', R, e, q⟩ => by
    obtain ⟨d, ρ1, w1, e1, e2⟩ := mBind_some e
    obtain ⟨h5, rfl, rfl⟩ := mLift_some e2
    unfold itemsD at h5
    split at h5
    · cases h5
      refine ⟨B, g, ρ, w, _, _, _, R, e1, fun v g1 H1 R1 l1 ⟨a, kv, ev, ⟨od, hx⟩, hk, rx⟩ => ⟨a, od, kv, ev, R1.sub _ _ hx, ?_⟩⟩
      subst hk
      exact q _ g1 H1 R1 l1 (wk_items hx rx)
    · cases h5
theorem si_values {tg : Expr} {ap : Pos} {f : M Dt} (h : SE X e f) (hb : attributeBase e "values" X.env (eval e X.env) = eval e X.env := by rfl) (hl : (ap.endLine == pos.line) = true := by rfl) :
    SI X tg (.Call (.Attribute e "values" ap) [] [] pos) (iValuesD f) :=
  pi_weak (pi_values h hb hl) fun σ H Q ⟨B, g, ρ, w, ds, ρ', w', R, e, q⟩ => by
    obtain ⟨d, ρ1, w1, e1, e2⟩ := mBind_some e
    obtain ⟨h5, rfl, rfl⟩ := mLift_some e2
    unfold valuesD at h5
    split at h5
    · cases h5
      exact ⟨B, g, ρ, w, _, _, _, R, e1, fun v g1 H1 R1 l1 ⟨a, kv, ev, ⟨od, hx⟩, hk, rx⟩ => ⟨a, od, kv, ev, R1.sub _ _ hx, q _ g1 H1 R1 l1 (wk_values hx rx)⟩⟩
    · cases h5

/-! dict(pairs) -/
def pairD : Dt → Option (Key × Dt)
  | .tup [k, v] => (asK k).map fun q => (q, v)
  | _ => none
def pairsD : List Dt → Option (List (Key × Dt))
  | [] => some []
  | d :: ds => match pairD d, pairsD ds with
    | some p, some ps => some (p :: ps)
    | _, _ => none
def mergeD (s : Dk) (ps : List (Key × Dt)) : Dk := ps.foldl (fun s p => (putKs s.1 p.1, putKd s.1 s.2 p.1 p.2)) s
theorem mergeD_rp {K : PySem.W.Frag} {g : Gh} : ∀ {ps : List (Key × Dt)} {more kv : List (Key × V)} {s : Dk}, more.map (·.1) = ps.map (·.1) → RpL K g (ps.map (·.2)) (more.map (·.2)) → kv.map (·.1) = s.1 → RpL K g s.2 (kv.map (·.2)) →
    (mergeK kv more).map (·.1) = (mergeD s ps).1 ∧ RpL K g (mergeD s ps).2 ((mergeK kv more).map (·.2))
  | [], [], _, _, _, _, h3, h4 => ⟨h3, h4⟩
  | p :: ps, q :: more, kv, s, h1, h2, h3, h4 => by
    have e1 : q.1 = p.1 := (List.cons.inj h1).1
    obtain ⟨r1, r2⟩ := h2
    obtain ⟨s1, s2⟩ := s
    have h3' : kv.map (·.1) = s1 := h3
    subst h3'
    obtain ⟨z1, z2⟩ := putK_rp (q := q.1) r1 h4
    refine mergeD_rp (ps := ps) (more := more) (kv := putK kv q.1 q.2) (s := (putKs (kv.map (·.1)) p.1, putKd (kv.map (·.1)) s2 p.1 p.2)) (List.cons.inj h1).2 r2 ?_ ?_
    · rw [← e1]; exact z1
    · rw [← e1]; exact z2
  | [], _ :: _, _, _, h1, _, _, _ => by cases h1
  | _ :: _, [], _, _, h1, _, _, _ => by cases h1
theorem pairD_rp {K : PySem.W.Frag} {g : Gh} {d : Dt} {v : V} {p : Key × Dt} (e : pairD d = some p) (r : Rp K g d v) : ∃ a y, v = .ref a ∧ SqT K g.F a [kV p.1, y] ∧ Rp K g p.2 y := by
  unfold pairD at e
  split at e
  · obtain ⟨q, hq, e2⟩ := Option.map_eq_some_iff.mp e
    subst e2
    obtain ⟨a, xs, ev, hx, rx⟩ := r
    cases xs with
    | nil => exact rx.elim
    | cons x xs => cases xs with
      | nil => exact rx.2.elim
      | cons y xs => cases xs with
        | cons _ _ => exact rx.2.2.elim
        | nil =>
          have := rx.1
          rw [asK_some hq] at this
          rw [rp_kD_is this] at hx
          exact ⟨a, y, ev, hx, rx.2.1⟩
  · cases e
theorem pairsD_rp {K : PySem.W.Frag} {g : Gh} {H : Hp} (hs : ∀ a o, g.F a = some o → H a = some o) : ∀ {ds : List Dt} {xs : List V} {ps : List (Key × Dt)}, pairsD ds = some ps → RpL K g ds xs → ∃ (as : List Addr) (kvs : List (Key × V)), xs = as.map V.ref ∧ Paired (fun p kv => SqT K H p [kV kv.1, kv.2]) as kvs ∧
    kvs.map (·.1) = ps.map (·.1) ∧ RpL K g (ps.map (·.2)) (kvs.map (·.2))
  | [], [], _, e, _ => by cases e; exact ⟨[], [], rfl, .nil, rfl, trivial⟩
  | d :: ds, x :: xs, ps, e, ⟨r1, r2⟩ => by
    unfold pairsD at e
    split at e
    · rename_i p ps' h1 h2
      cases e
      obtain ⟨a, y, ev, hx, ry⟩ := pairD_rp h1 r1
      obtain ⟨as, kvs, e1, e2, e3, e4⟩ := pairsD_rp hs h2 r2
      refine ⟨a :: as, (p.1, y) :: kvs, by rw [ev, e1]; rfl, .cons (sqT_mono hs hx) e2, ?_, ry, e4⟩
      show p.1 :: kvs.map (·.1) = p.1 :: ps'.map (·.1)
      rw [e3]
    · cases e
  | [], _ :: _, _, _, r => r.elim
  | _ :: _, [], _, _, r => r.elim
def nDictP (fa : M RV) : M Dk := mBind fa fun r => mBind (mRd r) fun d => match d with
  | .lst ds => mLift ((pairsD ds).map (mergeD ([], [])))
  | _ => mFail
theorem snk_dictP {fa : M RV} {p : Pos} (hm : X.mg "dict" = none) (ha : SR X e fa) (hc : X.calm = true := by rfl) (hg : Gl X "dict" := by rfl)
    (he : starEach (e :: []) X.env = (false, eval e X.env) :: starEach [] X.env := by rfl) (hpl : (backTo pos (starEach [] X.env)).any (·.1) = false := by rfl) : SNK X (.Call (.Name "dict" p) [e] [] pos) (nDictP fa) :=
  pe_weak (pe_callTy (call_dictP hc) hg hm (by decide +kernel) (sar_cons ha sar_nil he) (by decide) (by decide) he hpl) fun σ H Q ⟨B, g, ρ, w, d, ρ', w', R, e, k⟩ => by
    obtain ⟨r, ρ1, w1, e1, f1⟩ := mBind_some e
    obtain ⟨d0, ρ2, w2, e2, f2⟩ := mBind_some f1
    obtain ⟨h2, rfl, rfl⟩ := mRd_some e2
    split at f2
    · rename_i ds
      obtain ⟨h5, rfl, rfl⟩ := mLift_some f2
      obtain ⟨ps, hp, e6⟩ := Option.map_eq_some_iff.mp h5
      subst e6
      refine ⟨B, g, ρ, w, [r], _, _, R, by unfold aCons; unfold mBind; rw [e1]; rfl, fun vs g1 H1 R1 l1 q1 => ?_⟩
      cases vs with
      | nil => exact q1.elim
      | cons v vs => cases vs with
        | cons _ _ => exact q1.2.elim
        | nil =>
          obtain ⟨a, xs, rfl, hx, rx⟩ := R1.view q1.1 h2
          obtain ⟨as, kvs, rfl, h6, h7, h8⟩ := pairsD_rp R1.sub hp rx
          refine ⟨a, as, kvs, rfl, SqL.of hx, h6, fun p hp => ?_⟩
          obtain ⟨o, ne⟩ := R1.newOwn hp
          obtain ⟨z1, z2⟩ := mergeD_rp (kv := []) (s := ([], [])) h7 h8 rfl trivial
          exact k p _ g1 _ (R1.lay hp) l1 upd_same z1 z2 o ne
    · cases f2
end
end Lw

end
section
set_option Elab.async false
set_option linter.all false
set_option maxRecDepth 100000
set_option maxHeartbeats 2000000
namespace Lw
open PySem PySem.Spec L2
open PyProof.Rows (envOfC)

/-! math.comb -/
def rComb : List V → Hp → VK → Prop := fun vs H Q => ∃ a b : Int, vs = [.int a, .int b] ∧ 0 ≤ a ∧ 0 ≤ b ∧ a ≤ 18000 ∧ Q (.int (PySem.W.mcComb a b)) H
theorem cr_comb {X : Cx} : CallR X (.builtin "math.comb") rComb := by
  intro pins s σ H vs us Q I r h
  obtain ⟨a, b, rfl, h1, h2, h3, q⟩ := h
  obtain ⟨t, u, rfl⟩ := Vals.int2 r
  exact PySem.W.mc_comb h1 h2 (by omega) (.inr h3) fun _ => ⟨.int _, H, I.tok _, ⟨_, rfl⟩, q⟩
def cComb : List Dt → Option Dt
  | [.int a, .int b] => if decide (0 ≤ a) && decide (0 ≤ b) && decide (a ≤ 18000) then some (.int (PySem.W.mcComb a b)) else none
  | _ => none
theorem n_comb {K : PySem.W.Frag} : OpN K rComb cComb := fun g H xs ds d Q hs r e k => by
  unfold cComb at e
  split at e
  · obtain ⟨h, e⟩ := ite_some e
    cases e
    obtain ⟨h1, h2⟩ := Bool.and_eq_true_iff.mp h
    obtain ⟨h3, h4⟩ := Bool.and_eq_true_iff.mp h1
    obtain ⟨v, u, rfl, ev, eu⟩ := r.two
    cases ev; cases eu
    exact ⟨_, _, rfl, of_decide_eq_true h3, of_decide_eq_true h4, of_decide_eq_true h2, k.int⟩
  · cases e
section
variable {X : Cx} {x : Str} {p pos : Pos} {e : Expr} {es : List Expr} {fa : M (List RV)}
theorem se_comb (hm : X.mg x = some (.builtin "math.comb")) (ha : SAR X (e :: es) fa) (hg : Gl X x := by rfl) (hdb : (x == ("__debug__" : Str)) = false := by decide)
    (he : starEach (e :: es) X.env = (false, eval e X.env) :: starEach es X.env := by rfl) (hpl : (backTo pos (starEach es X.env)).any (·.1) = false := by rfl) : SE X (.Call (.Name x p) (e :: es) [] pos) (fCallB cComb fa) :=
  pe_weak (pe_callBfun cr_comb hg hm ha hdb he hpl) fun _ _ _ h => callB_read n_comb h
end

/-! a def that calls itself -/
section
variable {P : Program} {w : World} {K : PySem.W.Frag} {mg : Str → Option Value} {base : Heap}
theorem df_mk' {x y : Str} {st : Stmt} {f : Addr} {fd : FuncData} {N ps : List Str} {k : Nat} {F : M Fl} (FU : Fun K x x st f fd) (S : FnScope N ps (defScope st)) (hb : Binds K fd ps []) (hm : mg y = some (.ref f)) (hn : ps.length ≤ N.length)
    (body : ∀ (cdv : Value) (A : Around) (outer : List Env) (s : Shared) (H : Hp) (E : XK), Room k (A.deeper (envOfC x (defScope st) s.heap.objs.size f cdv)) → SSs (cxOf CX0 P w K mg base N x (defScope st) f cdv A outer s H E).nox (defBody st) F) :
    Df P w K mg base y ps (k + 1) (runF F N.length) :=
  ⟨f, fd, hm, FU.kp, hb, FU.ok S (fun vs H Q E h => h.1) fun cdv A outer s H vs Q E hr h => ⟨_, body cdv A outer s H E hr, sp_run hn h⟩⟩
theorem df_none {x y : Str} {st : Stmt} {f : Addr} {fd : FuncData} {N ps : List Str} {k : Nat} (FU : Fun K x x st f fd) (S : FnScope N ps (defScope st)) (hb : Binds K fd ps []) (hm : mg y = some (.ref f)) :
    Df P w K mg base y ps (k + 1) (fun _ _ => none) :=
  ⟨f, fd, hm, FU.kp, hb, FU.ok S (fun vs H Q E h => h.1) fun cdv A outer s H vs Q E hr h => ⟨_, pss_never, by
    obtain ⟨_, _, _, _, _, _, _, _, _, e, _⟩ := h
    cases e⟩⟩
/-- the def x of the text stands in what the top has written, under the name y -/
def Here' (K : PySem.W.Frag) (x y : Str) (st : Stmt) : Prop := ∃ (f : Addr) (oc : Value) (od : Option Addr) (kV dc pm : Value) (an : Option Addr) (cd ct : Value) (sl : Array (Option Value)),
  PySem.W.nsIn K mainGlobals y = some (some (.ref f)) ∧ K.lookup f = some ⟨oc, od, .func (PySem.W.fnOf x x (defArgs st) (defBody st) (defScope st) .none kV dc pm an cd ct), sl⟩ ∧ PySem.W.codeIn K cd x = true ∧ PySem.W.keepIn K (.ref f) = true
theorem Here'.fn {K : PySem.W.Frag} {x y : Str} {st : Stmt} {h : Heap} {mg : Str → Option Value} (H : Here' K x y st) (X : K.In h) (G : h.Ns mainGlobals mg) : ∃ f fd, Fun K x x st f fd ∧ mg y = some (.ref f) := by
  obtain ⟨f, oc, od, kV, dc, pm, an, cd, ct, sl, a, l, c, k⟩ := H
  exact ⟨f, _, fun_mk l c k, PySem.W.mg_of X G a⟩
theorem here' {K : PySem.W.Frag} {x y : Str} {st : Stmt} {f : Addr} {oc : Value} {od : Option Addr} {kV dc pm : Value} {an : Option Addr} {cd ct : Value} {sl : Array (Option Value)} (a : PySem.W.nsIn K mainGlobals y = some (some (.ref f)))
    (l : K.lookup f = some ⟨oc, od, .func (PySem.W.fnOf x x (defArgs st) (defBody st) (defScope st) .none kV dc pm an cd ct), sl⟩) (c : PySem.W.codeIn K cd x = true) (k : PySem.W.keepIn K (.ref f) = true) : Here' K x y st :=
  ⟨f, oc, od, kV, dc, pm, an, cd, ct, sl, a, l, c, k⟩
end
end Lw

end
section
set_option Elab.async false
set_option linter.all false
set_option maxRecDepth 100000
set_option maxHeartbeats 4000000
namespace Lw.T
open PySem PySem.Spec L2 Lw
def tab_LENGTHS : List (List Int × Int) := [([0, 1], 2), ([1, 1], 3), ([(-1), 1], 3)]
def F_in_form : M Fl := (fSeq (fSet 2 (fIf (cB (fOp2 oGt (rVar 1) (rVal (fLit (.int 0))))) (fCallB cGcd (aCons (rVar 0) (aCons (rVar 1) aNil))) (fOp1 oNeg (rVal (fCallB cGcd (aCons (rVar 0) (aCons (rVar 1) aNil)))))))
  (fRet (fTup (aCons (fOp2 oDiv (rVar 0) (rVar 2)) (aCons (fOp2 oDiv (rVar 1) (rVar 2)) aNil)))))
def m_in_form : Fn := runF F_in_form 3
def F_number : M Fl := (fRet (fIf (cB (fOp2 oGt (rVar 0) (rVal (fLit (.int 0))))) (fOp2 oMod (rVar 1) (rVar 0)) (fTup (aCons (fVar 1) (aCons (fLit (.int 1)) aNil)))))
def m_number : Fn := runF F_number 2
def F_plus : M Fl := (fRet (fIf (cB (fOp2 oGt (rVar 0) (rVal (fLit (.int 0))))) (fOp2 oMod (rVal (fOp2 oAdd (rVar 1) (rVar 2))) (rVar 0)) (fCall m_in_form (aCons (fOp2 oAdd (rVal (fOp2 oMul (rVal (fOp2 oIx (rVar 1) (rVal (fLit (.int 0))))) (rVal (fOp2 oIx (rVar 2) (rVal (fLit (.int 1))))))) (rVal (fOp2 oMul (rVal (fOp2 oIx (rVar 2) (rVal (fLit (.int 0))))) (rVal (fOp2 oIx (rVar 1) (rVal (fLit (.int 1)))))))) (aCons (fOp2 oMul (rVal (fOp2 oIx (rVar 1) (rVal (fLit (.int 1))))) (rVal (fOp2 oIx (rVar 2) (rVal (fLit (.int 1)))))) aNil)))))
def m_plus : Fn := runF F_plus 3
def F_times : M Fl := (fRet (fIf (cB (fOp2 oGt (rVar 0) (rVal (fLit (.int 0))))) (fOp2 oMod (rVal (fOp2 oMul (rVar 1) (rVar 2))) (rVar 0)) (fCall m_in_form (aCons (fOp2 oMul (rVal (fOp2 oIx (rVar 1) (rVal (fLit (.int 0))))) (rVal (fOp2 oIx (rVar 2) (rVal (fLit (.int 0)))))) (aCons (fOp2 oMul (rVal (fOp2 oIx (rVar 1) (rVal (fLit (.int 1))))) (rVal (fOp2 oIx (rVar 2) (rVal (fLit (.int 1)))))) aNil)))))
def m_times : Fn := runF F_times 3
def F_minus : M Fl := (fRet (fCall m_plus (aCons (fVar 0) (aCons (fVar 1) (aCons (fCall m_times (aCons (fVar 0) (aCons (fCall m_number (aCons (fVar 0) (aCons (fOp1 oNeg (rVal (fLit (.int 1)))) aNil))) (aCons (fVar 2) aNil)))) aNil)))))
def m_minus : Fn := runF F_minus 3
def F_l_open_cells : M Fl := (fSeq (fSet 1 (fLit (.int 11)))
  (fSeq (fFor (ftN 2) (iAny (fVar 0)) (fSet 1 (fOp2 oMod (rVal (fCallB cInt (aCons (rVal (fOp2 oAdd (rVal (fOp2 oAdd (rVal (fOp2 oMul (rVar 1) (rVal (fLit (.int 69069))))) (rVal (fOp2 oMul (rVar 2) (rVal (fLit (.int 31))))))) (rVal (fLit (.int 5))))) aNil))) (rVal (fLit (.int 2147483629))))))
  (fSeq (fSetLc 3 (nLc (ftN 2) (iAny (fVar 0)) (mRet true) (fCallB cAbs (aCons (rVar 2) aNil)) [2]))
  (fRet (fOpenS 3 1)))))
def m_l_open_cells : Fn := runF F_l_open_cells 4
def F_l_pick : M Fl := (fSeq (fIfS (cB (fOp2 oLt (rVar 1) (rVal (fLit (.int 2))))) (fRet (fLit (.int 0))) fNx)
  (fSeq (fSet 2 (fSrcCel 0))
  (fSeq (fWhile (cAnd (cB (fOp2 oLt (rVal (fSrcGet 0 .left)) (rVal (fLit (.int 2))))) (cB (fOp2 oGt (rVal (fCelLen 2)) (rVal (fLit (.int 0)))))) (fSrcPut 0 .left (fCelPop 2)))
  (fSeq (fSet 3 (fSrcGet 0 .left))
  (fSeq (fIfS (cB (fOp2 oGt (rVar 3) (rVal (fLit (.int 1))))) (fSeq (fSrcPut 0 .left (fOp2 oDiv (rVar 3) (rVar 1)))
  (fRet (fOp2 oMod (rVal (fCallB cInt (aCons (rVar 3) aNil))) (rVar 1)))) fNx)
  (fSeq (fSrcPut 0 .turn (fOp2 oAdd (rVal (fSrcGet 0 .turn)) (rVal (fLit (.int 1)))))
  (fSeq (fSet 4 (fSrcGet 0 .turn))
  (fSeq (fSet 5 (fOp2 oMod (rVal (fCallB cInt (aCons (rVal (fOp2 oAdd (rVal (fSrcGet 0 .mixed)) (rVal (fOp2 oMul (rVar 4) (rVal (fLit (.int 104729))))))) aNil))) (rVal (fLit (.int 998244353)))))
  (fSeq (fSet 5 (fOp2 oMod (rVal (fCallB cInt (aCons (rVal (fOp2 oAdd (rVal (fOp2 oMul (rVar 5) (rVar 5))) (rVal (fOp2 oMul (rVar 4) (rVal (fLit (.int 17))))))) aNil))) (rVal (fLit (.int 2147483647)))))
  (fRet (fOp2 oMod (rVal (fCallB cInt (aCons (rVal (fOp2 oDiv (rVar 5) (rVal (fLit (.int 16))))) aNil))) (rVar 1))))))))))))
def m_l_pick : Fn := runF F_l_pick 6
def F_l_common : M Fl := (fSeq (fPar 0 1 (aCons (fCallB cAbs (aCons (rVar 0) aNil)) (aCons (fCallB cAbs (aCons (rVar 1) aNil)) aNil)))
  (fSeq (fWhile (cB (fOp2 oNe (rVar 1) (rVal (fLit (.int 0))))) (fPar 0 1 (aCons (fVar 1) (aCons (fOp2 oMod (rVar 0) (rVar 1)) aNil))))
  (fRet (fVar 0))))
def m_l_common : Fn := runF F_l_common 2
def F_l_fraction : M Fl := (fSeq (fSet 2 (fOp2 oMul (rVal (fCall m_l_common (aCons (fVar 0) (aCons (fVar 1) aNil)))) (rIf (cB (fOp2 oGt (rVar 1) (rVal (fLit (.int 0))))) (rVal (fLit (.int 1))) (rVal (fOp2 oSub (rVal (fLit (.int 0))) (rVal (fLit (.int 1))))))))
  (fRet (fTup (aCons (fOp2 oDiv (rVar 0) (rVar 2)) (aCons (fOp2 oDiv (rVar 1) (rVar 2)) aNil)))))
def m_l_fraction : Fn := runF F_l_fraction 3
def F_l_number : M Fl := (fRet (fIf (cB (fOp2 oGt (rVar 0) (rVal (fLit (.int 0))))) (fOp2 oMod (rVar 1) (rVar 0)) (fTup (aCons (fVar 1) (aCons (fLit (.int 1)) aNil)))))
def m_l_number : Fn := runF F_l_number 2
def F_l_plus : M Fl := (fRet (fIf (cB (fOp2 oGt (rVar 0) (rVal (fLit (.int 0))))) (fOp2 oMod (rVal (fOp2 oAdd (rVar 1) (rVar 2))) (rVar 0)) (fCall m_l_fraction (aCons (fOp2 oAdd (rVal (fOp2 oMul (rVal (fOp2 oIx (rVar 1) (rVal (fLit (.int 0))))) (rVal (fOp2 oIx (rVar 2) (rVal (fLit (.int 1))))))) (rVal (fOp2 oMul (rVal (fOp2 oIx (rVar 2) (rVal (fLit (.int 0))))) (rVal (fOp2 oIx (rVar 1) (rVal (fLit (.int 1)))))))) (aCons (fOp2 oMul (rVal (fOp2 oIx (rVar 1) (rVal (fLit (.int 1))))) (rVal (fOp2 oIx (rVar 2) (rVal (fLit (.int 1)))))) aNil)))))
def m_l_plus : Fn := runF F_l_plus 3
def F_l_times : M Fl := (fRet (fIf (cB (fOp2 oGt (rVar 0) (rVal (fLit (.int 0))))) (fOp2 oMod (rVal (fOp2 oMul (rVar 1) (rVar 2))) (rVar 0)) (fCall m_l_fraction (aCons (fOp2 oMul (rVal (fOp2 oIx (rVar 1) (rVal (fLit (.int 0))))) (rVal (fOp2 oIx (rVar 2) (rVal (fLit (.int 0)))))) (aCons (fOp2 oMul (rVal (fOp2 oIx (rVar 1) (rVal (fLit (.int 1))))) (rVal (fOp2 oIx (rVar 2) (rVal (fLit (.int 1)))))) aNil)))))
def m_l_times : Fn := runF F_l_times 3
def F_l_minus : M Fl := (fRet (fCall m_l_plus (aCons (fVar 0) (aCons (fVar 1) (aCons (fCall m_l_times (aCons (fVar 0) (aCons (fCall m_l_number (aCons (fVar 0) (aCons (fOp2 oSub (rVal (fLit (.int 0))) (rVal (fLit (.int 1)))) aNil))) (aCons (fVar 2) aNil)))) aNil)))))
def m_l_minus : Fn := runF F_l_minus 3
def F_l_draw_field : M Fl := (fRet (fOp2 oIx (rVal (fLst (aCons (fLit (.int 2)) (aCons (fLit (.int 3)) (aCons (fLit (.int 5)) (aCons (fLit (.int 7)) (aCons (fLit (.int 2)) (aCons (fLit (.int 3)) (aCons (fLit (.int 11)) (aCons (fLit (.int 13)) (aCons (fLit (.int 0)) (aCons (fLit (.int 5)) aNil)))))))))))) (rVal (fCall m_l_pick (aCons (fVar 0) (aCons (fLit (.int 10)) aNil))))))
def m_l_draw_field : Fn := runF F_l_draw_field 1
def F_worth_row : M Fl := (fSeq (fSetN 3 (nLst (aCons (fCall m_number (aCons (fVar 0) (aCons (fLit (.int 1)) aNil))) (aCons (fVar 1) aNil))))
  (fSeq (fFor (ftN 4) (iRg rg1 (aCons (rVal (fOp2 oSub (rVar 2) (rVal (fLit (.int 1))))) aNil)) (fDrop (fApp 3 (fCall m_minus (aCons (fVar 0) (aCons (fCall m_times (aCons (fVar 0) (aCons (fVar 1) (aCons (fOp2 oIx (rVar 3) (rVal (fOp1 oNeg (rVal (fLit (.int 1)))))) aNil)))) (aCons (fOp2 oIx (rVar 3) (rVal (fOp1 oNeg (rVal (fLit (.int 2)))))) aNil)))))))
  (fRet (fSl (rVar 3) (mRet none) (cI (fOp2 oAdd (rVar 2) (rVal (fLit (.int 1)))))))))
def m_worth_row : Fn := runF F_worth_row 5
def F_length : M Fl := (fSeq (fIfS (cB (fOp2 oEq (rVar 0) (rVal (fLit (.int 0))))) (fRet (mBind (fVar 1) fun d => mLift (oKGet tab_LENGTHS d))) fNx)
  (fRet (fOp2 oAdd (rVal (fIndex (fCall m_worth_row (aCons (fVar 0) (aCons (fVar 1) (aCons (fOp2 oAdd (rVar 0) (rVal (fLit (.int 1)))) aNil)))) (aCons (fLit (.int 0)) aNil))) (rVal (fLit (.int 1))))))
def m_length : Fn := runF F_length 2
def F_l_worth_row : M Fl := (fSeq (fSetN 3 (nLst (aCons (fCall m_l_number (aCons (fVar 0) (aCons (fLit (.int 1)) aNil))) (aCons (fVar 1) aNil))))
  (fSeq (fWhile (cB (fOp2 oLt (rVal (fCallB cLen (aCons (rVar 3) aNil))) (rVal (fOp2 oAdd (rVar 2) (rVal (fLit (.int 1))))))) (fDrop (fApp 3 (fCall m_l_minus (aCons (fVar 0) (aCons (fCall m_l_times (aCons (fVar 0) (aCons (fVar 1) (aCons (fOp2 oIx (rVar 3) (rVal (fOp2 oSub (rVal (fCallB cLen (aCons (rVar 3) aNil))) (rVal (fLit (.int 1)))))) aNil)))) (aCons (fOp2 oIx (rVar 3) (rVal (fOp2 oSub (rVal (fCallB cLen (aCons (rVar 3) aNil))) (rVal (fLit (.int 2)))))) aNil)))))))
  (fRet (fSl (rVar 3) (mRet none) (cI (fOp2 oAdd (rVar 2) (rVal (fLit (.int 1)))))))))
def m_l_worth_row : Fn := runF F_l_worth_row 4
def F_l_length : M Fl := (fSeq (fSet 2 (fCall m_l_worth_row (aCons (fVar 0) (aCons (fVar 1) (aCons (fIf (cB (fOp2 oGt (rVar 0) (rVal (fLit (.int 0))))) (fOp2 oAdd (rVar 0) (rVal (fLit (.int 2)))) (fLit (.int 6))) aNil)))))
  (fSeq (fSetLc 3 (nLc (ftN 4) (iRg rg2 (aCons (rVal (fLit (.int 2))) (aCons (rVal (fOp2 oAdd (rVal (fCallB cLen (aCons (rVar 2) aNil))) (rVal (fLit (.int 1))))) aNil))) (cB (fOp2 oEq (rVal (fOp2 oIx (rVar 2) (rVal (fOp2 oSub (rVar 4) (rVal (fLit (.int 1))))))) (rVal (fCall m_l_number (aCons (fVar 0) (aCons (fLit (.int 0)) aNil)))))) (fVar 4) [4]))
  (fRet (fIf (cB (fOp2 oNe (rVar 3) (rVal (fLst aNil)))) (fOp2 oIx (rVar 3) (rVal (fLit (.int 0)))) (fLit .non)))))
def m_l_length : Fn := runF F_l_length 5
def F_count : M Fl := (fSeq (fIfS (cOr (cB (fOp2 oGt (rVar 1) (rVar 0))) (cB (fOp2 oEq (rVal (fOp2 oMod (rVal (fOp2 oSub (rVar 0) (rVar 1))) (rVal (fLit (.int 2))))) (rVal (fLit (.int 1)))))) (fRet (fLit (.int 0))) fNx)
  (fSeq (fSet 2 (fOp2 oDiv (rVal (fOp2 oSub (rVar 0) (rVar 1))) (rVal (fLit (.int 2)))))
  (fRet (fOp2 oSub (rVal (fCallB cComb (aCons (rVar 0) (aCons (rVar 2) aNil)))) (rIf (cB (fOp2 oGt (rVar 2) (rVal (fLit (.int 0))))) (rVal (fCallB cComb (aCons (rVar 0) (aCons (rVal (fOp2 oSub (rVar 2) (rVal (fLit (.int 1))))) aNil)))) (rVal (fLit (.int 0))))))))
def m_count : Fn := runF F_count 3
def F_l_count_v2 : M Fl := (fSeq (fIfS (cOr (cB (fOp2 oLt (rVar 1) (rVal (fLit (.int 0))))) (cOr (cB (fOp2 oGt (rVar 1) (rVar 0))) (cB (fOp2 oEq (rVal (fOp2 oMod (rVal (fOp2 oSub (rVar 0) (rVar 1))) (rVal (fLit (.int 2))))) (rVal (fLit (.int 1))))))) (fRet (fLit (.int 0))) fNx)
  (fSeq (fPar 2 3 (aCons (fOp2 oDiv (rVal (fOp2 oSub (rVar 0) (rVar 1))) (rVal (fLit (.int 2)))) (aCons (fLit (.int 1)) aNil)))
  (fSeq (fFor (ftN 4) (iRg rg1 (aCons (rVar 2) aNil)) (fSet 3 (fOp2 oDiv (rVal (fOp2 oMul (rVar 3) (rVal (fOp2 oSub (rVar 0) (rVar 4))))) (rVal (fOp2 oAdd (rVar 4) (rVal (fLit (.int 1))))))))
  (fRet (fOp2 oSub (rVar 3) (rIf (cB (fOp2 oGt (rVar 2) (rVal (fLit (.int 0))))) (rVal (fOp2 oDiv (rVal (fOp2 oMul (rVar 3) (rVar 2))) (rVal (fOp2 oAdd (rVal (fOp2 oSub (rVar 0) (rVar 2))) (rVal (fLit (.int 1))))))) (rVal (fLit (.int 0)))))))))
def m_l_count_v2 : Fn := runF F_l_count_v2 5
def F_l_draw_worth : M Fl := (fSeq (fIfS (cB (fOp2 oGt (rVar 1) (rVal (fLit (.int 0))))) (fRet (fCall m_l_pick (aCons (fVar 0) (aCons (fVar 1) aNil)))) fNx)
  (fRet (fCall m_l_fraction (aCons (fOp2 oIx (rVal (fLst (aCons (fLit (.int 0)) (aCons (fLit (.int 1)) (aCons (fOp2 oSub (rVal (fLit (.int 0))) (rVal (fLit (.int 1)))) (aCons (fLit (.int 2)) (aCons (fOp2 oSub (rVal (fLit (.int 0))) (rVal (fLit (.int 2)))) (aCons (fLit (.int 3)) (aCons (fLit (.int 1)) aNil))))))))) (rVal (fCall m_l_pick (aCons (fVar 0) (aCons (fLit (.int 7)) aNil))))) (aCons (fOp2 oIx (rVal (fLst (aCons (fLit (.int 1)) (aCons (fLit (.int 1)) (aCons (fLit (.int 1)) (aCons (fLit (.int 2)) aNil)))))) (rVal (fCall m_l_pick (aCons (fVar 0) (aCons (fLit (.int 4)) aNil))))) aNil)))))
def m_l_draw_worth : Fn := runF F_l_draw_worth 2
def F_digits : M Fl := (fSeq (fIfS (cB (fOp2 oIs (rVar 1) (rVal (fLit .non)))) (fRet (fTup (aCons (fVar 2) aNil))) fNx)
  (fSeq (fParS [3, 4] (amN (nLst (aCons (fOp2 oMod (rVar 2) (rVar 1)) aNil)) (amF (fOp2 oDiv (rVar 2) (rVar 1)) (mRet []))))
  (fSeq (fWhile (cB (fOp2 oGt (rVar 4) (rVal (fLit (.int 0))))) (fIfS (cB (fOp2 oEq (rVar 0) (rVal (fLit (.int 0))))) (fSeq (fDrop (fApp 3 (fVar 4)))
  (fSet 4 (fLit (.int 0)))) (fSeq (fDrop (fApp 3 (fOp2 oMod (rVar 4) (rVar 0))))
  (fSet 4 (fOp2 oDiv (rVar 4) (rVar 0))))))
  (fRet (fCallB cTuple (aCons (rVar 3) aNil))))))
def m_digits : Fn := runF F_digits 5
def F_places : M Fl := (fSeq (fSetN 3 (nLst (aCons (fLit (.int 1)) aNil)))
  (fSeq (fWhile (cB (fOp2 oLt (rVal (fCallB cLen (aCons (rVar 3) aNil))) (rVar 2))) (fDrop (fApp 3 (fOp2 oMul (rVal (fOp2 oIx (rVar 3) (rVal (fOp1 oNeg (rVal (fLit (.int 1))))))) (rIf (cB (fOp2 oEq (rVal (fCallB cLen (aCons (rVar 3) aNil))) (rVal (fLit (.int 1))))) (rVar 1) (rVar 0))))))
  (fRet (fVar 3))))
def m_places : Fn := runF F_places 4
def F_of_digits : M Fl := (fRet (fCallB cSum (aCons (rVal (mBind (nLc (ftT 2 (ftsCons (ftN 4) (ftsCons (ftN 3) ftsNil))) (iZipD (aCons (fVar 2) (aCons (fCall m_places (aCons (fVar 0) (aCons (fVar 1) (aCons (fCallB cLen (aCons (rVar 2) aNil)) aNil)))) aNil))) (mRet true) (fOp2 oMul (rVar 4) (rVar 3)) [4, 3]) fun ds => mRet (.lst ds))) aNil)))
def m_of_digits : Fn := runF F_of_digits 5
def F_support : M Fl := (fSeq (fSet 3 (fCall m_digits (aCons (fVar 0) (aCons (fVar 1) (aCons (fVar 2) aNil)))))
  (fSeq (fSetLc 4 (nLc (ftT 2 (ftsCons (ftN 6) (ftsCons (ftN 5) ftsNil))) (iZipD (aCons (fVar 3) (aCons (fCall m_places (aCons (fVar 0) (aCons (fVar 1) (aCons (fCallB cLen (aCons (rVar 3) aNil)) aNil)))) aNil))) (mRet true) (fOp2 oMul (rVar 6) (rVar 5)) [6, 5]))
  (fSeq (fSet 7 (fLst (aCons (fOp2 oIx (rVar 4) (rVal (fOp1 oNeg (rVal (fLit (.int 1)))))) aNil)))
  (fSeq (fFor (ftN 8) (iAny (fSl (rVar 4) (mRet none) (cI (fOp1 oNeg (rVal (fLit (.int 1))))))) (fIfS (cB (fOp2 oNe (rVar 8) (rVal (fLit (.int 0))))) (fSet 7 (fOp2 oAdd (rVal (mBind (nLc (ftN 9) (iAny (fVar 7)) (mRet true) (fOp2 oSub (rVar 9) (rVar 8)) [9]) fun ds => mRet (.lst ds))) (rVal (mBind (nLc (ftN 9) (iAny (fVar 7)) (mRet true) (fOp2 oAdd (rVar 9) (rVar 8)) [9]) fun ds => mRet (.lst ds))))) fNx))
  (fRet (fCallB cTuple (aCons (rVal (fCallB cSortedI (aCons (rVar 7) aNil))) aNil)))))))
def m_support : Fn := runF F_support 10
def F_holds : M Fl := (fSeq (fSet 4 (fCall m_digits (aCons (fVar 0) (aCons (fVar 1) (aCons (fOp2 oAdd (rVar 3) (rVal (fLit (.int 1)))) aNil)))))
  (fSeq (fSetLc 5 (nLc (ftT 2 (ftsCons (ftN 7) (ftsCons (ftN 6) ftsNil))) (iZipD (aCons (fVar 4) (aCons (fCall m_places (aCons (fVar 0) (aCons (fVar 1) (aCons (fCallB cLen (aCons (rVar 4) aNil)) aNil)))) aNil))) (mRet true) (fOp2 oMul (rVar 7) (rVar 6)) [7, 6]))
  (fSeq (fSet 8 (fOp2 oSub (rVal (fOp2 oAdd (rVar 2) (rVal (fLit (.int 1))))) (rVal (fOp2 oIx (rVar 5) (rVal (fOp1 oNeg (rVal (fLit (.int 1)))))))))
  (fSeq (fFor (ftN 9) (iRevD (fSl (rVar 5) (mRet none) (cI (fOp1 oNeg (rVal (fLit (.int 1))))))) (fIfS (cB (fOp2 oNe (rVar 9) (rVal (fLit (.int 0))))) (fSet 8 (fIf (cB (fOp2 oGt (rVar 8) (rVal (fLit (.int 0))))) (fOp2 oSub (rVar 8) (rVar 9)) (fOp2 oAdd (rVar 8) (rVar 9)))) fNx))
  (fRet (fOp2 oEq (rVar 8) (rVal (fLit (.int 0)))))))))
def m_holds : Fn := runF F_holds 10
def F_next_over : M Fl := (fSeq (fIfS (cB (fOp2 oIs (rVar 1) (rVal (fLit .non)))) (fRet (fLit .non)) fNx)
  (fSeq (fPar 3 4 (aCons (fOp2 oAdd (rVar 2) (rVal (fLit (.int 1)))) (aCons (fVar 1) aNil)))
  (fSeq (fWhile (cB (fOp2 oEq (rVal (fOp2 oMod (rVar 3) (rVar 4))) (rVal (fLit (.int 0))))) (fSeq (fIfS (cB (fOp2 oEq (rVar 0) (rVal (fLit (.int 0))))) (fRet (fLit .non)) fNx)
  (fSet 4 (fOp2 oMul (rVar 4) (rVar 0)))))
  (fRet (fOp2 oSub (rVal (fOp2 oSub (rVal (fOp2 oMul (rVal (fOp2 oMul (rVal (fLit (.int 2))) (rVal (fOp2 oAdd (rVal (fOp2 oDiv (rVar 3) (rVar 4))) (rVal (fLit (.int 1))))))) (rVar 4))) (rVar 3))) (rVal (fLit (.int 1))))))))
def m_next_over : Fn := runF F_next_over 5
def F_l_digits : M Fl := (fSeq (fIfS (cB (fOp2 oIs (rVar 1) (rVal (fLit .non)))) (fRet (fLst (aCons (fVar 2) aNil))) fNx)
  (fSeq (fParS [3, 4] (amN (nLst (aCons (fOp2 oMod (rVar 2) (rVar 1)) aNil)) (amF (fOp2 oDiv (rVar 2) (rVar 1)) (mRet []))))
  (fSeq (fWhile (cB (fOp2 oGt (rVar 4) (rVal (fLit (.int 0))))) (fSeq (fDrop (fApp 3 (fIf (cB (fOp2 oGt (rVar 0) (rVal (fLit (.int 0))))) (fOp2 oMod (rVar 4) (rVar 0)) (fVar 4))))
  (fSet 4 (fIf (cB (fOp2 oGt (rVar 0) (rVal (fLit (.int 0))))) (fOp2 oDiv (rVar 4) (rVar 0)) (fLit (.int 0))))))
  (fRet (fVar 3)))))
def m_l_digits : Fn := runF F_l_digits 5
def F_l_support : M Fl := (fSeq (fParS [3, 4, 5] (amF (fCall m_l_digits (aCons (fVar 0) (aCons (fVar 1) (aCons (fVar 2) aNil)))) (amF (fLit (.int 1)) (amN (nLst aNil) (mRet [])))))
  (fSeq (fFor (ftT 2 (ftsCons (ftN 7) (ftsCons (ftN 6) ftsNil))) (iEnumD (fVar 3)) (fSeq (fDrop (fApp 5 (fOp2 oMul (rVar 6) (rVar 4))))
  (fSet 4 (fOp2 oMul (rVar 4) (rIf (cAnd (cB (fOp2 oEq (rVar 7) (rVal (fLit (.int 0))))) (cB (fOp2 oIsNot (rVar 1) (rVal (fLit .non))))) (rVar 1) (rVal (fCallB cMax2 (aCons (rVar 0) (aCons (rVal (fLit (.int 1))) aNil)))))))))
  (fSeq (fSet 8 (fLst (aCons (fOp2 oIx (rVar 5) (rVal (fOp2 oSub (rVal (fCallB cLen (aCons (rVar 5) aNil))) (rVal (fLit (.int 1)))))) aNil)))
  (fSeq (fFor (ftN 9) (iAny (fSl (rVar 5) (mRet none) (cI (fOp2 oSub (rVal (fCallB cLen (aCons (rVar 5) aNil))) (rVal (fLit (.int 1))))))) (fIfS (cB (fOp2 oGt (rVar 9) (rVal (fLit (.int 0))))) (fSet 8 (fOp2 oAdd (rVal (mBind (nLc (ftN 10) (iAny (fVar 8)) (mRet true) (fOp2 oAdd (rVar 10) (rVar 9)) [10]) fun ds => mRet (.lst ds))) (rVal (mBind (nLc (ftN 10) (iAny (fVar 8)) (mRet true) (fOp2 oSub (rVar 10) (rVar 9)) [10]) fun ds => mRet (.lst ds))))) fNx))
  (fRet (fCallB cSortedI (aCons (rVar 8) aNil)))))))
def m_l_support : Fn := runF F_l_support 11
def F_all_sizes : M Fl := (fSeq (fSet 3 (fCall m_length (aCons (fVar 0) (aCons (fVar 1) aNil))))
  (fSeq (fSetNK 4 nK0)
  (fSeq (fFor (ftN 5) (iRg rg3 (aCons (rVar 2) (aCons (rVal (fOp1 oNeg (rVal (fLit (.int 1))))) (aCons (rVal (fOp1 oNeg (rVal (fLit (.int 2))))) aNil)))) (fPutK 4 (fVar 5) (fOp2 oSub (rVal (fCall m_count (aCons (fVar 2) (aCons (fVar 5) aNil)))) (rVal (fCallB cSum (aCons (rVal (mBind (nLc (ftN 6) (iRg rg3 (aCons (rVal (fOp2 oAdd (rVar 5) (rVal (fLit (.int 2))))) (aCons (rVal (fOp2 oAdd (rVar 2) (rVal (fLit (.int 1))))) (aCons (rVal (fLit (.int 2))) aNil)))) (cB (fCall m_holds (aCons (fVar 0) (aCons (fVar 3) (aCons (fVar 5) (aCons (fVar 6) aNil)))))) (fOp2 oIx (rVar 4) (rVar 6)) [6]) fun ds => mRet (.lst ds))) aNil))))))
  (fRet (fVar 4)))))
def m_all_sizes : Fn := runF F_all_sizes 7
def F_size : M Fl := (fRet (fGet2 (rVal (fCall m_all_sizes (aCons (fVar 0) (aCons (fVar 1) (aCons (fVar 2) aNil))))) (fVar 3) (fLit (.int 0))))
def m_size : Fn := runF F_size 4
def F_sizes : M Fl := (fRet (mBind (nLc (ftT 2 (ftsCons (ftN 4) (ftsCons (ftN 3) ftsNil))) (iItemsD (fCall m_all_sizes (aCons (fVar 0) (aCons (fVar 1) (aCons (fVar 2) aNil))))) (cB (fOp2 oGt (rVar 3) (rVal (fLit (.int 0))))) (fTup (aCons (fVar 4) (aCons (fVar 3) aNil))) [4, 3]) fun ds => mRet (.lst ds)))
def m_sizes : Fn := runF F_sizes 5
def F_pieces_of : M Fl := (fSeq (fSet 4 (fCall m_length (aCons (fVar 0) (aCons (fVar 1) aNil))))
  (fRet (fCallB cTuple (aCons (rVal (fCallB cSortedI (aCons (rVal (mBind (nLc (ftT 2 (ftsCons (ftN 6) (ftsCons (ftN 5) ftsNil))) (iAny (fCall m_sizes (aCons (fVar 0) (aCons (fVar 1) (aCons (fVar 2) aNil))))) (cB (fCall m_holds (aCons (fVar 0) (aCons (fVar 4) (aCons (fVar 3) (aCons (fVar 6) aNil)))))) (fVar 6) [6, 5]) fun ds => mRet (.lst ds))) aNil))) aNil))))
def m_pieces_of : Fn := runF F_pieces_of 7
def F_keeps_all : M Fl := (fSeq (fSet 4 (fCall m_next_over (aCons (fVar 0) (aCons (fCall m_length (aCons (fVar 0) (aCons (fVar 1) aNil))) (aCons (fVar 3) aNil)))))
  (fRet (fOrV (fOp2 oIs (rVar 4) (rVal (fLit .non))) (fOp2 oGt (rVar 4) (rVar 2)))))
def m_keeps_all : Fn := runF F_keeps_all 5
def F_lost : M Fl := (fRet (fCallB cTuple (aCons (rVal (mBind (nLc (ftN 3) (iRg rg3 (aCons (rVal (fOp2 oMod (rVar 2) (rVal (fLit (.int 2))))) (aCons (rVal (fOp2 oAdd (rVar 2) (rVal (fLit (.int 1))))) (aCons (rVal (fLit (.int 2))) aNil)))) (cNot (cB (fCall m_keeps_all (aCons (fVar 0) (aCons (fVar 1) (aCons (fVar 2) (aCons (fVar 3) aNil))))))) (fVar 3) [3]) fun ds => mRet (.lst ds))) aNil)))
def m_lost : Fn := runF F_lost 4
def F_all_kept : M Fl := (fRet (fOp2 oEq (rVal (fCall m_lost (aCons (fVar 0) (aCons (fVar 1) (aCons (fVar 2) aNil))))) (rVal (fTup aNil))))
def m_all_kept : Fn := runF F_all_kept 3
def F_shares_of : M Fl := (fSeq (fIfS (cB (fOp2 oEq (rVal (fCall m_size (aCons (fVar 0) (aCons (fVar 1) (aCons (fVar 2) (aCons (fVar 3) aNil)))))) (rVal (fLit (.int 0))))) (fRet (fTup aNil)) fNx)
  (fSeq (fSet 4 (fCall m_length (aCons (fVar 0) (aCons (fVar 1) aNil))))
  (fRet (fCallB cTuple (aCons (rVal (mBind (nLc (ftN 5) (iRg rg3 (aCons (rVal (fOp2 oMod (rVar 2) (rVal (fLit (.int 2))))) (aCons (rVal (fOp2 oAdd (rVar 2) (rVal (fLit (.int 1))))) (aCons (rVal (fLit (.int 2))) aNil)))) (cB (fCall m_holds (aCons (fVar 0) (aCons (fVar 4) (aCons (fVar 5) (aCons (fVar 3) aNil)))))) (fVar 5) [5]) fun ds => mRet (.lst ds))) aNil)))))
def m_shares_of : Fn := runF F_shares_of 6
def F_l_sizes_v2 : M Fl := (fSeq (fParS [3, 4] (amF (fCall m_l_length (aCons (fVar 0) (aCons (fVar 1) aNil))) (amK nK0 (mRet []))))
  (fSeq (fSet 5 (mBind (nDictP (rVal (mBind (nLc (ftN 6) (iRg rg3 (aCons (rVar 2) (aCons (rVal (fOp2 oSub (rVal (fLit (.int 0))) (rVal (fLit (.int 1))))) (aCons (rVal (fOp2 oSub (rVal (fLit (.int 0))) (rVal (fLit (.int 2))))) aNil)))) (mRet true) (fTup (aCons (fVar 6) (aCons (fCall m_l_support (aCons (fVar 0) (aCons (fVar 3) (aCons (fOp2 oAdd (rVar 6) (rVal (fLit (.int 1)))) aNil)))) aNil))) [6]) fun ds => mRet (.lst ds)))) fun s => mRet (.dct s.1 s.2)))
  (fSeq (fFor (ftN 7) (iRg rg3 (aCons (rVar 2) (aCons (rVal (fOp2 oSub (rVal (fLit (.int 0))) (rVal (fLit (.int 1))))) (aCons (rVal (fOp2 oSub (rVal (fLit (.int 0))) (rVal (fLit (.int 2))))) aNil)))) (fSeq (fSetLc 8 (nLc (ftN 6) (iRg rg3 (aCons (rVar 2) (aCons (rVar 7) (aCons (rVal (fOp2 oSub (rVal (fLit (.int 0))) (rVal (fLit (.int 2))))) aNil)))) (cB (fOp2 oIn (rVal (fOp2 oAdd (rVar 7) (rVal (fLit (.int 1))))) (rVal (fOp2 oIx (rVar 5) (rVar 6))))) (fOp2 oIx (rVar 4) (rVar 6)) [6]))
  (fPutK 4 (fVar 7) (fOp2 oSub (rVal (fCall m_l_count_v2 (aCons (fVar 2) (aCons (fVar 7) aNil)))) (rVal (fCallB cSum (aCons (rVar 8) aNil)))))))
  (fRet (fVar 4)))))
def m_l_sizes_v2 : Fn := runF F_l_sizes_v2 9
def F_l_count : M Fl := (fSeq (fIfS (cOr (cB (fOp2 oLt (rVar 1) (rVal (fLit (.int 0))))) (cOr (cB (fOp2 oGt (rVar 1) (rVar 0))) (cB (fOp2 oEq (rVal (fOp2 oMod (rVal (fOp2 oSub (rVar 0) (rVar 1))) (rVal (fLit (.int 2))))) (rVal (fLit (.int 1))))))) (fRet (fLit (.int 0))) fNx)
  (fSeq (fPar 2 3 (aCons (fOp2 oDiv (rVal (fOp2 oSub (rVar 0) (rVar 1))) (rVal (fLit (.int 2)))) (aCons (fLit (.int 1)) aNil)))
  (fSeq (fFor (ftN 4) (iRg rg1 (aCons (rVar 2) aNil)) (fSet 3 (fOp2 oDiv (rVal (fOp2 oMul (rVar 3) (rVal (fOp2 oSub (rVar 0) (rVar 4))))) (rVal (fOp2 oAdd (rVar 4) (rVal (fLit (.int 1))))))))
  (fRet (fOp2 oSub (rVar 3) (rIf (cB (fOp2 oGt (rVar 2) (rVal (fLit (.int 0))))) (rVal (fOp2 oDiv (rVal (fOp2 oMul (rVar 3) (rVar 2))) (rVal (fOp2 oAdd (rVal (fOp2 oSub (rVar 0) (rVar 2))) (rVal (fLit (.int 1))))))) (rVal (fLit (.int 0)))))))))
def m_l_count : Fn := runF F_l_count 5
def F_l_sizes : M Fl := (fSeq (fParS [3, 4] (amF (fCall m_l_length (aCons (fVar 0) (aCons (fVar 1) aNil))) (amK nK0 (mRet []))))
  (fSeq (fSet 5 (mBind (nDictP (rVal (mBind (nLc (ftN 6) (iRg rg3 (aCons (rVar 2) (aCons (rVal (fOp2 oSub (rVal (fLit (.int 0))) (rVal (fLit (.int 1))))) (aCons (rVal (fOp2 oSub (rVal (fLit (.int 0))) (rVal (fLit (.int 2))))) aNil)))) (mRet true) (fTup (aCons (fVar 6) (aCons (fCall m_l_support (aCons (fVar 0) (aCons (fVar 3) (aCons (fOp2 oAdd (rVar 6) (rVal (fLit (.int 1)))) aNil)))) aNil))) [6]) fun ds => mRet (.lst ds)))) fun s => mRet (.dct s.1 s.2)))
  (fSeq (fFor (ftN 7) (iRg rg3 (aCons (rVar 2) (aCons (rVal (fOp2 oSub (rVal (fLit (.int 0))) (rVal (fLit (.int 1))))) (aCons (rVal (fOp2 oSub (rVal (fLit (.int 0))) (rVal (fLit (.int 2))))) aNil)))) (fSeq (fSetLc 8 (nLc (ftN 6) (iRg rg3 (aCons (rVar 2) (aCons (rVar 7) (aCons (rVal (fOp2 oSub (rVal (fLit (.int 0))) (rVal (fLit (.int 2))))) aNil)))) (cB (fOp2 oIn (rVal (fOp2 oAdd (rVar 7) (rVal (fLit (.int 1))))) (rVal (fOp2 oIx (rVar 5) (rVar 6))))) (fOp2 oIx (rVar 4) (rVar 6)) [6]))
  (fPutK 4 (fVar 7) (fOp2 oSub (rVal (fCall m_l_count (aCons (fVar 2) (aCons (fVar 7) aNil)))) (rVal (fCallB cSum (aCons (rVar 8) aNil)))))))
  (fRet (fVar 4)))))
def m_l_sizes : Fn := runF F_l_sizes 9

end Lw.T

end
section
set_option Elab.async false
set_option linter.all false
set_option maxRecDepth 100000
set_option maxHeartbeats 2000000
namespace Lw
open PySem PySem.Spec L2

/-! ### equality of data -/
mutual
/-- plain data, no deeper than k -/
def okD : Nat → Dt → Bool
  | _, .non => true
  | _, .bl _ => true
  | _, .int _ => true
  | _, .str s => PyData.strOk s
  | k + 1, .tup ds => okDL k ds
  | k + 1, .lst ds => okDL k ds
  | _, _ => false
def okDL : Nat → List Dt → Bool
  | _, [] => true
  | k, d :: ds => okD k d && okDL k ds
end
mutual
theorem eqv_refl : ∀ x : PyData, x.canLay0 = true → PyData.eqv x x = true
  | .none, _ => by simp [PyData.eqv]
  | .bool _, _ => by simp [PyData.eqv]
  | .int _, _ => by simp [PyData.eqv]
  | .str _, _ => by simp [PyData.eqv]
  | .list xs, h => by rw [PyData.eqv]; exact eqvAll_refl xs (by rw [PyData.canLay0] at h; exact h)
  | .tuple xs, h => by rw [PyData.eqv]; exact eqvAll_refl xs (by rw [PyData.canLay0] at h; exact h)
  | .dict _, h => by rw [PyData.canLay0] at h; cases h
theorem eqvAll_refl : ∀ xs : List PyData, PyData.canLayAll0 xs = true → PyData.eqvAll xs xs = true
  | [], _ => by simp [PyData.eqvAll]
  | x :: xs, h => by
    rw [PyData.canLayAll0] at h
    obtain ⟨h1, h2⟩ := Bool.and_eq_true_iff.mp h
    rw [PyData.eqvAll, eqv_refl x h1, eqvAll_refl xs h2]; rfl
end
mutual
theorem okD_py : ∀ (k : Nat) (d : Dt), okD k d = true → ∃ x, d.py = some x ∧ x.canLay0 = true ∧ x.depth ≤ k
  | k, .non, _ => ⟨.none, by rw [Dt.py], by rw [PyData.canLay0], by rw [PyData.depth]; omega⟩
  | k, .bl b, _ => ⟨.bool b, by rw [Dt.py], by rw [PyData.canLay0], by rw [PyData.depth]; omega⟩
  | k, .int i, _ => ⟨.int i, by rw [Dt.py], by rw [PyData.canLay0], by rw [PyData.depth]; omega⟩
  | k, .str s, h => ⟨.str s, by rw [Dt.py], by rw [PyData.canLay0]; rw [okD] at h; exact h, by rw [PyData.depth]; omega⟩
  | k + 1, .tup ds, h => by
    rw [okD] at h
    obtain ⟨xs, h1, h2, h3⟩ := okDL_py k ds h
    exact ⟨.tuple xs, by rw [Dt.py, h1], by rw [PyData.canLay0]; exact h2, by rw [PyData.depth]; omega⟩
  | k + 1, .lst ds, h => by
    rw [okD] at h
    obtain ⟨xs, h1, h2, h3⟩ := okDL_py k ds h
    exact ⟨.list xs, by rw [Dt.py, h1], by rw [PyData.canLay0]; exact h2, by rw [PyData.depth]; omega⟩
  | 0, .tup _, h => by rw [okD] at h <;> first | cases h | (intros; simp_all)
  | 0, .lst _, h => by rw [okD] at h <;> first | cases h | (intros; simp_all)
  | _, .dct _ _, h => by rw [okD] at h <;> first | cases h | (intros; simp_all)
  | _, .dcx _ _, h => by rw [okD] at h <;> first | cases h | (intros; simp_all)
  | _, .src, h => by rw [okD] at h <;> first | cases h | (intros; simp_all)
  | _, .cel, h => by rw [okD] at h <;> first | cases h | (intros; simp_all)
  | _, .rol _, h => by rw [okD] at h <;> first | cases h | (intros; simp_all)
theorem okDL_py : ∀ (k : Nat) (ds : List Dt), okDL k ds = true → ∃ xs, Dt.pyL ds = some xs ∧ PyData.canLayAll0 xs = true ∧ PyData.depthAll xs ≤ k
  | k, [], _ => ⟨[], by rw [Dt.pyL], by rw [PyData.canLayAll0], by rw [PyData.depthAll]; omega⟩
  | k, d :: ds, h => by
    rw [okDL] at h
    obtain ⟨h1, h2⟩ := Bool.and_eq_true_iff.mp h
    obtain ⟨x, a1, a2, a3⟩ := okD_py k d h1
    obtain ⟨xs, b1, b2, b3⟩ := okDL_py k ds h2
    exact ⟨x :: xs, by rw [Dt.pyL, a1, b1], by rw [PyData.canLayAll0, a2, b2]; rfl, by rw [PyData.depthAll]; omega⟩
end
theorem okD_shp {k : Nat} {d : Dt} (hk : k ≤ 64) (h : okD k d = true) : ∃ x, d.py = some x ∧ SeqAt.shaped x = true ∧ PyData.eqv x x = true := by
  obtain ⟨x, h1, h2, h3⟩ := okD_py k d h
  exact ⟨x, h1, by unfold SeqAt.shaped; rw [h2, decide_eq_true (by omega)]; rfl, eqv_refl x h2⟩
theorem eq_same {k : Nat} {d : Dt} (hk : k ≤ 64) (h : okD k d = true) : oEq d d = some (.bl true) := by
  obtain ⟨x, h1, h2, h3⟩ := okD_shp hk h
  unfold oEq; rw [h1]; simp [h2, h3]
theorem ne_same {k : Nat} {d : Dt} (hk : k ≤ 64) (h : okD k d = true) : oNe d d = some (.bl false) := by
  obtain ⟨x, h1, h2, h3⟩ := okD_shp hk h
  unfold oNe; rw [h1]; simp [h2, h3]
theorem okDL_map {α : Type} {k : Nat} {f : α → Dt} (h : ∀ x, okD k (f x) = true) : ∀ xs : List α, okDL k (xs.map f) = true
  | [] => by rw [List.map_nil, okDL]
  | x :: xs => by rw [List.map_cons, okDL, h x, okDL_map h xs]; rfl

/-! ### reckoning with the combinators for dicts -/
section
variable {ρ : En} {w : Wd} {i : Nat}
@[simp] theorem u_putK (i : Nat) (fk fv : M Dt) (ρ : En) (w : Wd) : fPutK i fk fv ρ w = mBind fv (fun d => mBind (isOwK i) fun _ => mBind fk fun k => mPutK i d k) ρ w := (rfl)
@[simp] theorem u_setNK (i : Nat) (f : M Dk) (ρ : En) (w : Wd) : fSetNK i f ρ w = mBind f (fun s => setOwK i s) ρ w := (rfl)
@[simp] theorem u_setOwK (i : Nat) (s : Dk) (ρ : En) (w : Wd) : setOwK i s ρ w = some (.nx, ρ.set i (some (.owK s.1 s.2)), w) := (rfl)
@[simp] theorem u_nK0 (ρ : En) (w : Wd) : nK0 ρ w = some (([], []), ρ, w) := (rfl)
@[simp] theorem u_amK (f : M Dk) (k : M (List Sl)) (ρ : En) (w : Wd) : amK f k ρ w = mBind f (fun d => mBind k fun ss => mRet (.owK d.1 d.2 :: ss)) ρ w := (rfl)
@[simp] theorem u_get1 (fd : M RV) (fk : M Dt) (ρ : En) (w : Wd) : fGet1 fd fk ρ w = mBind fd (fun r => mBind (mRd r) fun d0 => if isDc d0 then mBind fk fun k => mBind (mRd r) fun d => mLift (oGet d k .non) else mFail) ρ w := (rfl)
@[simp] theorem u_get2 (fd : M RV) (fk fx : M Dt) (ρ : En) (w : Wd) : fGet2 fd fk fx ρ w = mBind fd (fun r => mBind (mRd r) fun d0 => if isDc d0 then mBind fk fun k => mBind fx fun x => mBind (mRd r) fun d => mLift (oGet d k x) else mFail) ρ w := (rfl)
@[simp] theorem isDc_dct (ks : List Key) (vs : List Dt) : isDc (.dct ks vs) = true := (rfl)
@[simp] theorem u_items (f : M Dt) (ρ : En) (w : Wd) : iItemsD f ρ w = mBind f (fun d => mLift (itemsD d)) ρ w := (rfl)
@[simp] theorem u_values (f : M Dt) (ρ : En) (w : Wd) : iValuesD f ρ w = mBind f (fun d => mLift (valuesD d)) ρ w := (rfl)
theorem isOwK_at {ks : List Key} {ds : List Dt} (h : ρ[i]? = some (some (.owK ks ds))) : isOwK i ρ w = some ((), ρ, w) := by unfold isOwK; rw [h]
theorem mPutK_at {ks : List Key} {ds : List Dt} {d k : Dt} {q : Key} (h : ρ[i]? = some (some (.owK ks ds))) (hk : asK k = some q) (hl : ks.length < 16777216) : mPutK i d k ρ w = some (.nx, ρ.set i (some (.owK (putKs ks q) (putKd ks ds q d))), w) := by
  have hz : decide (ks.length < sizeLine) = true := decide_eq_true (by rw [sizeLine_eq]; exact hl)
  unfold mPutK; rw [h]; simp only [hk, hz, if_true]
theorem u_dictP {fa : M RV} {ρ1 : En} {w1 : Wd} {r : RV} {ds : List Dt} {ps : List (Key × Dt)} (h : fa ρ w = some (r, ρ1, w1)) (h2 : rd r ρ1 = some (.lst ds)) (h3 : pairsD ds = some ps) : nDictP fa ρ w = some (mergeD ([], []) ps, ρ1, w1) := by
  unfold nDictP mBind mRd; rw [h]; simp only [h2, mLift, h3, Option.map_some]
end

/-! ### comprehensions and loops over any items -/
theorem loopC_on {α : Type} {ft : FT} {fc : M Bool} {fe : M Dt} {vs : List Nat} {ρ0 : En} {w : Wd} (e : α → Dt) (b : α → Bool) (y : α → Dt) : ∀ (xs : List α) (acc : List Dt) (ρ : En), wipeE ρ vs = ρ0 →
    (∀ x ∈ xs, ∃ ρ1, ft (e x) ρ0 = some ρ1 ∧ fc ρ1 w = some (b x, ρ1, w) ∧ (b x = true → fe ρ1 w = some (y x, ρ1, w)) ∧ wipeE ρ1 vs = ρ0) →
    acc.length + xs.length ≤ 16777216 → ∃ ρ', loopC ft fc fe vs (xs.map e) acc ρ w = some (acc ++ (xs.filter b).map y, ρ', w) ∧ wipeE ρ' vs = ρ0
  | [], acc, ρ, h0, _, _ => ⟨ρ, by simp [loopC], h0⟩
  | x :: xs, acc, ρ, h0, h, hl => by
    obtain ⟨ρ1, h1, h2, h3, h4⟩ := h x (by simp)
    rw [List.length_cons] at hl
    cases hb : b x with
    | true =>
      obtain ⟨ρ', e', q⟩ := loopC_on e b y xs (acc ++ [y x]) ρ1 h4 (fun d hd => h d (by simp [hd])) (by rw [List.length_append, List.length_singleton]; omega)
      refine ⟨ρ', ?_, q⟩
      have hz : acc.length < sizeLine := by rw [sizeLine_eq]; omega
      subst h0
      rw [List.map_cons, loopC]
      simp only [h1, h2, h3 hb, hz, decide_true, if_true, e', hb]
      simp [hb]
    | false =>
      obtain ⟨ρ', e', q⟩ := loopC_on e b y xs acc ρ1 h4 (fun d hd => h d (by simp [hd])) (by omega)
      refine ⟨ρ', ?_, q⟩
      subst h0
      rw [List.map_cons, loopC]
      simp only [h1, h2, e', hb]
      simp [hb]
theorem nLc_on {α : Type} {ft : FT} {fi : M (List Dt)} {fc : M Bool} {fe : M Dt} {vs : List Nat} {ρ ρ1 ρ0 : En} {w w1 : Wd} (xs : List α) (e : α → Dt) (b : α → Bool) (y : α → Dt) (hi : fi ρ w = some (xs.map e, ρ1, w1)) (h0 : wipeE ρ1 vs = ρ0)
    (h : ∀ x ∈ xs, ∃ ρ2, ft (e x) ρ0 = some ρ2 ∧ fc ρ2 w1 = some (b x, ρ2, w1) ∧ (b x = true → fe ρ2 w1 = some (y x, ρ2, w1)) ∧ wipeE ρ2 vs = ρ0) (hl : xs.length ≤ 16777216) : nLc ft fi fc fe vs ρ w = some ((xs.filter b).map y, ρ0, w1) := by
  obtain ⟨ρ', e', q⟩ := loopC_on e b y xs [] ρ1 h0 h (by simpa using hl)
  rw [u_lc, q_bind, hi]
  simp only [q_bind, oB_some, e', List.nil_append, q]
theorem nLc_all {α : Type} {ft : FT} {fi : M (List Dt)} {fe : M Dt} {vs : List Nat} {ρ ρ1 ρ0 : En} {w w1 : Wd} (xs : List α) (e : α → Dt) (y : α → Dt) (hi : fi ρ w = some (xs.map e, ρ1, w1)) (h0 : wipeE ρ1 vs = ρ0)
    (h : ∀ x ∈ xs, ∃ ρ2, ft (e x) ρ0 = some ρ2 ∧ fe ρ2 w1 = some (y x, ρ2, w1) ∧ wipeE ρ2 vs = ρ0) (hl : xs.length ≤ 16777216) : nLc ft fi (mRet true) fe vs ρ w = some (xs.map y, ρ0, w1) := by
  have := nLc_on (fc := mRet true) xs e (fun _ => true) y hi h0 (fun x hx => by
    obtain ⟨ρ2, h1, h2, h3⟩ := h x hx
    exact ⟨ρ2, h1, rfl, fun _ => h2, h3⟩) hl
  rw [this, List.filter_eq_self.mpr fun _ _ => rfl]
/-- a loop whose turns all go on: I done rest says what stands in the slots -/
theorem loop_rel {α : Type} {ft : FT} {fb : M Fl} {w : Wd} (e : α → Dt) (I : List α → List α → En → Prop) : ∀ (rest done : List α) (ρ : En), I done rest ρ →
    (∀ done x rest ρ, I done (x :: rest) ρ → ∃ ρ1 ρ2, ft (e x) ρ = some ρ1 ∧ (fb ρ1 w = some (.nx, ρ2, w) ∨ fb ρ1 w = some (.ct, ρ2, w)) ∧ I (done ++ [x]) rest ρ2) →
    ∃ ρ', loopD ft fb (rest.map e) ρ w = some (.nx, ρ', w) ∧ I (done ++ rest) [] ρ'
  | [], done, ρ, h, _ => ⟨ρ, rfl, by rw [List.append_nil]; exact h⟩
  | x :: rest, done, ρ, h, step => by
    obtain ⟨ρ1, ρ2, h1, h2, h3⟩ := step done x rest ρ h
    obtain ⟨ρ', e', q⟩ := loop_rel e I rest (done ++ [x]) ρ2 h3 step
    rw [List.append_assoc] at q
    refine ⟨ρ', ?_, q⟩
    rw [List.map_cons]
    rcases h2 with h2 | h2
    · rw [loop_nx h1 h2]; exact e'
    · rw [loop_ct h1 h2]; exact e'
/-! ### dicts -/
theorem getK_on {α κ : Type} [DecidableEq κ] (k : α → κ) (f : α → Dt) : ∀ (xs : List α) (x : α), x ∈ xs → (∀ y ∈ xs, k y = k x → f y = f x) → getK (xs.map k) (xs.map f) (k x) = some (f x)
  | [], _, h, _ => by cases h
  | y :: ys, x, h, inj => by
    show (if k y = k x then some (f y) else getK (ys.map k) (ys.map f) (k x)) = _
    by_cases e : k y = k x
    · rw [if_pos e, inj y (by simp) e]
    · rw [if_neg e]
      rcases List.mem_cons.mp h with z | z
      · exact absurd (congrArg k z).symm e
      · exact getK_on k f ys x z fun y hy => inj y (by simp [hy])
theorem getK_not {κ : Type} [DecidableEq κ] {q : κ} : ∀ (ks : List κ) (ds : List Dt), q ∉ ks → getK ks ds q = none
  | [], ds, _ => by cases ds <;> rfl
  | k :: ks, [], _ => rfl
  | k :: ks, d :: ds, h => by
    show (if k = q then some d else getK ks ds q) = none
    rw [if_neg fun e => h (by simp [e]), getK_not ks ds fun z => h (by simp [z])]
theorem any_not {κ : Type} [DecidableEq κ] {q : κ} {ks : List κ} (h : q ∉ ks) : (ks.any fun k => decide (k = q)) = false := by
  rw [List.any_eq_false]
  intro k hk
  have : k ≠ q := fun e => h (e ▸ hk)
  simp [this]
theorem putKs_new {κ : Type} [DecidableEq κ] {q : κ} {ks : List κ} (h : q ∉ ks) : putKs ks q = ks ++ [q] := by
  unfold putKs; rw [any_not h]; rfl
theorem putKd_new {κ : Type} [DecidableEq κ] {q : κ} {ks : List κ} {ds : List Dt} {x : Dt} (h : q ∉ ks) : putKd ks ds q x = ds ++ [x] := by
  unfold putKd; rw [any_not h]; rfl
theorem mergeD_new {α : Type} (k : α → Key) (f : α → Dt) : ∀ (xs : List α) (ks : List Key) (ds : List Dt), (ks ++ xs.map k).Nodup → mergeD (ks, ds) (xs.map fun x => (k x, f x)) = (ks ++ xs.map k, ds ++ xs.map f)
  | [], ks, ds, _ => by simp [mergeD]
  | x :: xs, ks, ds, h => by
    have h1 : k x ∉ ks := fun z => by
      rw [List.map_cons, List.nodup_append] at h
      exact h.2.2 _ z _ (by simp) rfl
    have e : mergeD (ks, ds) ((x :: xs).map fun x => (k x, f x)) = mergeD (putKs ks (k x), putKd ks ds (k x) (f x)) (xs.map fun x => (k x, f x)) := rfl
    rw [e, putKs_new h1, putKd_new h1, mergeD_new k f xs _ _ (by rw [List.append_assoc]; exact h), List.append_assoc, List.append_assoc]
    rfl
theorem pairsD_on {α : Type} (k : α → Key) (f : α → Dt) : ∀ xs : List α, pairsD (xs.map fun x => .tup [kD (k x), f x]) = some (xs.map fun x => (k x, f x))
  | [] => rfl
  | x :: xs => by
    rw [List.map_cons, pairsD, pairsD_on k f xs]
    have : pairD (.tup [kD (k x), f x]) = some (k x, f x) := by
      unfold pairD
      cases k x <;> rfl
    rw [this]; rfl
end Lw

end
section
set_option Elab.async false
set_option linter.all false
set_option maxRecDepth 100000
set_option maxHeartbeats 2000000
namespace Lw
open PySem PySem.Spec L2

/-! ### a list that a def returns, as one's own -/
mutual
/-- no list, no dict in it -/
def flatT : Dt → Bool
  | .non => true
  | .bl _ => true
  | .int _ => true
  | .str _ => true
  | .tup ds => flatTL ds
  | _ => false
def flatTL : List Dt → Bool
  | [] => true
  | d :: ds => flatT d && flatTL ds
end
/-- the tuples alone that are known -/
def tupO : Option HO → Option HO
  | some (.tup ys) => some (.tup ys)
  | some (.frz o (.tup ys)) => some (.frz o (.tup ys))
  | _ => none
def Gh.tups (g : Gh) : Gh := { g with F := fun x => tupO (g.F x) }
theorem tupO_some {o : Option HO} {u : HO} (h : tupO o = some u) : o = some u := by
  unfold tupO at h
  split at h
  · exact h
  · exact h
  · cases h
theorem sqT_to {K : PySem.W.Frag} {F F' : Hp} {a : Addr} {xs : List V} (h : ∀ x u, tupO (F x) = some u → F' x = some u) (q : SqT K F a xs) : SqT K F' a xs := by
  rcases q with (q | ⟨o, q⟩) | q
  · exact .inl (.inl (h _ _ (by rw [q]; rfl)))
  · exact .inl (.inr ⟨o, h _ _ (by rw [q]; rfl)⟩)
  · exact .inr q
mutual
theorem flat_to {K : PySem.W.Frag} {g g' : Gh} (h : ∀ x u, tupO (g.F x) = some u → g'.F x = some u) : ∀ {d : Dt} {v : V}, flatT d = true → Rp K g d v → Rp K g' d v
  | .non, _, _, q => q
  | .bl b, _, _, q => q
  | .int i, _, _, q => q
  | .str s, _, _, q => q
  | .tup ds, _, f, ⟨a, xs, e, q, r⟩ => ⟨a, xs, e, sqT_to h q, flat_toL h (ds := ds) (by unfold flatT at f; exact f) r⟩
  | .lst _, _, f, _ => by unfold flatT at f; cases f
  | .dct _ _, _, f, _ => by unfold flatT at f; cases f
  | .dcx _ _, _, f, _ => by unfold flatT at f; cases f
  | .src, _, f, _ => by unfold flatT at f; cases f
  | .cel, _, f, _ => by unfold flatT at f; cases f
  | .rol _, _, f, _ => by unfold flatT at f; cases f
theorem flat_toL {K : PySem.W.Frag} {g g' : Gh} (h : ∀ x u, tupO (g.F x) = some u → g'.F x = some u) : ∀ {ds : List Dt} {vs : List V}, flatTL ds = true → RpL K g ds vs → RpL K g' ds vs
  | [], [], _, _ => trivial
  | d :: ds, v :: vs, f, ⟨a, b⟩ => by
    unfold flatTL at f
    obtain ⟨f1, f2⟩ := Bool.and_eq_true_iff.mp f
    exact ⟨flat_to h (d := d) f1 a, flat_toL h (ds := ds) f2 b⟩
  | [], _ :: _, _, q => q.elim
  | _ :: _, [], _, q => q.elim
end
def fCallN (m : Fn) (fa : M (List Dt)) : M (List Dt) := mBind fa fun ds ρ w => if flatTL ds then (match m ds w with
  | some (.lst es, w') => if flatTL es then some (es, ρ, w') else none
  | _ => none) else none
section
variable {X : Cx} {pos p : Pos} {e : Expr} {es : List Expr} {x : Str} {ps : List Str} {k : Nat} {m : Fn} {fa : M (List Dt)}
open Classical in
noncomputable def Gh.thaw (g1 g' : Gh) (a : Addr) : Gh := { g' with F := fun x => if x = a then none else match g1.F x with | some o => some o | none => g'.F x }
theorem callN_read {K : PySem.W.Frag} {n : Nat} {σ : St} {H : Hp} {Q : VK} (hn : ∀ ρ w r, fa ρ w = some r → r.1.length = n) (h : tN K (fCallN m fa) σ H Q) : tCall (spM K m n) [] E0 (tAE K fa) σ H Q := by
  obtain ⟨B, g, ρ, w, d, ρ', w', R, e, q⟩ := h
  obtain ⟨ds, ρ1, w1, e1, f1⟩ := mBind_some e
  obtain ⟨hfl, f1⟩ := ite_some f1
  split at f1
  · rename_i es w2 hm
    obtain ⟨hfe, f1⟩ := ite_some f1
    cases f1
    refine ⟨B, g, ρ, w, ds, _, w1, R, e1, fun vs g1 H1 R1 l1 r1 => ?_⟩
    show spM K m n (vs ++ []) H1 Q E0
    rw [List.append_nil]
    have hl := hn _ _ _ e1
    refine ⟨by rw [← r1.length]; exact hl, g1.tups, w1, ds, _, _, fun a o ho => R1.sub a o (tupO_some ho), ?_, flat_toL (fun _ _ h => h) hfl r1, hm, fun v g' H' T rp => ?_⟩
    · cases w1 with
      | none => exact R1.src
      | some st =>
        obtain ⟨s, c, a1, a2, a3, a4, a5, a6⟩ := R1.src
        exact ⟨s, c, a1, a2, a3, a4, by show tupO (g1.F s) = none; rw [a5]; rfl, by show tupO (g1.F c) = none; rw [a6]; rfl⟩
    obtain ⟨a, xs, ev, hF, rx⟩ := rp
    subst ev
    have hH1 : H1 a = none := by
      rcases T.newF a _ hF with z | z
      · have z' : tupO (g1.F a) = some (.lst xs) := z
        unfold tupO at z'
        split at z' <;> cases z'
      · exact z
    have hH' : H' a = some (.lst xs) := T.sub _ _ hF
    have nsrc : ∀ b, IsSrc g1 b ↔ IsSrc g1.tups b := fun b => Iff.rfl
    have keep1 : ∀ b o, g1.F b = some o → H' b = some o := fun b o hb => by
      refine T.keep b o (R1.sub b o hb) fun hs => ?_
      have := (R1.src.some_of ((nsrc b).mpr hs)).2
      rw [this] at hb; cases hb
    have ne1 : ∀ b o, g1.F b = some o → b ≠ a := fun b o hb z => by rw [z] at hb; rw [R1.sub _ _ hb] at hH1; cases hH1
    have isS : ∀ b, IsSrc g' b → g'.F b = none := fun b hb => (T.src.some_of hb).2
    have nF : ∀ b, IsSrc g' b → g1.F b = none := fun b hb => by
      cases z : g1.F b with
      | none => rfl
      | some o =>
        have h1 := R1.sub b o z
        rcases T.le.S with y | y
        · have h2 := T.srcN y b hb
          rw [h1] at h2; cases h2
        · have hb' : IsSrc g1 b := by
            have : g'.S = g1.S := y
            exact (isSrc_of_S this).mp hb
          have := (R1.src.some_of hb').2
          rw [this] at z; cases z
    have at' : ∀ b, b ≠ a → (g1.thaw g' a).F b = (match g1.F b with | some o => some o | none => g'.F b) := fun b hb => if_neg hb
    have T2 : Stp g1 H1 (g1.thaw g' a) H' w' := by
      refine ⟨fun b o hb => ?_, ?_, fun b o hb hs => T.keep b o hb fun z => hs ((nsrc b).mpr z), T.there, fun b o hb => ?_, ⟨fun b o hb => ?_, T.le.S⟩, fun hS b hb => T.srcN hS b hb, T.ad⟩
      · by_cases z : b = a
        · rw [z] at hb; have hb : (if a = a then none else _) = some o := hb; rw [if_pos rfl] at hb; cases hb
        · rw [at' b z] at hb
          cases y : g1.F b with
          | some u => rw [y] at hb; cases hb; exact keep1 b _ y
          | none => rw [y] at hb; exact T.sub b o hb
      · cases w' with
        | none => exact T.src
        | some st =>
          obtain ⟨s, c, a1, a2, a3, a4, a5, a6⟩ := T.src
          have z1 : s ≠ a := fun z => by rw [z] at a5; rw [a5] at hF; cases hF
          have z2 : c ≠ a := fun z => by rw [z] at a6; rw [a6] at hF; cases hF
          exact ⟨s, c, a1, a2, a3, a4, by rw [at' s z1, nF s ⟨s, c, a1, .inl rfl⟩]; exact a5, by rw [at' c z2, nF c ⟨s, c, a1, .inr rfl⟩]; exact a6⟩
      · by_cases z : b = a
        · rw [z] at hb; have hb : (if a = a then none else _) = some o := hb; rw [if_pos rfl] at hb; cases hb
        · rw [at' b z] at hb
          cases y : g1.F b with
          | some u => rw [y] at hb; cases hb; exact .inl rfl
          | none =>
            rw [y] at hb
            rcases T.newF b o hb with x | x
            · have x' : tupO (g1.F b) = some o := x
              rw [y] at x'; cases x'
            · exact .inr x
      · rw [at' b (ne1 b o hb), hb]
    have R2 := R1.stp T2
    refine q a xs _ H' R2 (l1.trans T2.le) hH' (flat_toL (fun b u hb => ?_) hfe rx) ⟨?_, ?_, ?_, fun hh => (R1.hid a hh).2.1 hH1, fun hs => ?_⟩ fun j hj z => ?_
    · have hb1 := tupO_some hb
      have z : b ≠ a := fun z => by
        rw [z, hF] at hb
        cases hb
      rw [at' b z]
      cases y : g1.F b with
      | none => exact hb1
      | some o =>
        have h1 := keep1 b o y
        rw [T.sub b u hb1] at h1
        exact h1.symm
    · show (if a = a then none else _) = none
      rw [if_pos rfl]
    · cases z : B.Fr a with
      | none => rfl
      | some o => rw [R1.keep a o z] at hH1; cases hH1
    · cases z : B.H0 a with
      | none => rfl
      | some o => exact absurd hH1 (R1.old a (by rw [z]; simp))
    · have hs' : IsSrc g' a := hs
      rw [isS a hs'] at hF; cases hF
    · have had : (g1.thaw g' a).ad = g1.ad := T.ad
      rw [had] at z
      obtain ⟨s, es', os⟩ := hj
      obtain ⟨_, _, u, hu⟩ := R1.owned es' os
      rw [z, hH1] at hu; cases hu
  · cases f1
theorem sn_call (D : Df X.prog X.w X.K X.mg X.base x ps k m) (hr : Room k X.A) (ha : SA X (e :: es) fa) (hn : aLen ps.length fa) (hg : Gl X x := by rfl) (hdb : (x == ("__debug__" : Str)) = false := by decide)
    (he : starEach (e :: es) X.env = (false, eval e X.env) :: starEach es X.env := by rfl) (hpl : (backTo pos (starEach es X.env)).any (·.1) = false := by rfl) : SN X (.Call (.Name x p) (e :: es) [] pos) (fCallN m fa) := by
  obtain ⟨f, fd, hm, hk, hb, F⟩ := D
  exact pe_weak (pe_call F hr hg hm hk hb .nil pass0 ha hdb he hpl) fun _ _ _ h => callN_read hn h
def callNO (ρ : En) (b : Bool) (o : Option (Dt × Wd)) : Option (List Dt × En × Wd) := if b then (match o with
  | some (.lst es, w') => if flatTL es then some (es, ρ, w') else none
  | _ => none) else none
@[simp] theorem u_callN (m : Fn) (fa : M (List Dt)) (ρ : En) (w : Wd) : fCallN m fa ρ w = mBind fa (fun ds ρ w => callNO ρ (flatTL ds) (m ds w)) ρ w := (rfl)
theorem callNO_at {ρ : En} {es : List Dt} {w : Wd} (h : flatTL es = true) : callNO ρ true (some (.lst es, w)) = some (es, ρ, w) := by
  unfold callNO
  simp only [h, if_true]
theorem flatTL_map {α : Type} {f : α → Dt} (h : ∀ x, flatT (f x) = true) : ∀ xs : List α, flatTL (xs.map f) = true
  | [] => by rw [List.map_nil, flatTL]
  | x :: xs => by rw [List.map_cons, flatTL, h x, flatTL_map h xs]; rfl
end
end Lw

end
section
set_option Elab.async false
set_option linter.all false
set_option maxRecDepth 100000
set_option maxHeartbeats 4000000
namespace Lw.T
open PySem PySem.Spec L2 Lw
open PyProof.Rows (envOfC)
def top (i : Nat) : Stmt := PySem.Challenge.pw_loopworth_k10_sizes_of_pieces.main.body.getD i (.Pass ⟨0, 0, 0, 0⟩)
structure Bl (P : Program) (w : World) (K : PySem.W.Frag) (mg : Str → Option Value) : Prop where
  b_abs : mg "abs" = none
  b_dict : mg "dict" = none
  b_enumerate : mg "enumerate" = none
  b_int : mg "int" = none
  b_len : mg "len" = none
  b_max : mg "max" = none
  b_range : mg "range" = none
  b_repr : mg "repr" = none
  b_reversed : mg "reversed" = none
  b_sorted : mg "sorted" = none
  b_sum : mg "sum" = none
  b_tuple : mg "tuple" = none
  b_zip : mg "zip" = none
  g_comb : mg "comb" = some (.builtin "math.comb")
  g_gcd : mg "gcd" = some (.builtin "math.gcd")
  t_LENGTHS : ∃ d, mg "LENGTHS" = some (.ref d) ∧ KTab P w K d tab_LENGTHS
abbrev s_digits : Stmt := top 2
abbrev s_places : Stmt := top 3
abbrev s_holds : Stmt := top 4
abbrev s_next_over : Stmt := top 5
abbrev s_count : Stmt := top 7
abbrev s_in_form : Stmt := top 9
abbrev s_number : Stmt := top 10
abbrev s_plus : Stmt := top 11
abbrev s_times : Stmt := top 12
abbrev s_minus : Stmt := top 13
abbrev s_worth_row : Stmt := top 16
abbrev s_length : Stmt := top 17
abbrev s_all_sizes : Stmt := top 19
abbrev s_size : Stmt := top 20
abbrev s_sizes : Stmt := top 21
abbrev s_pieces_of : Stmt := top 22
abbrev s_keeps_all : Stmt := top 23
abbrev s_lost : Stmt := top 24
abbrev s_all_kept : Stmt := top 25
abbrev s_shares_of : Stmt := top 26
abbrev s_l_open_cells : Stmt := top 28
abbrev s_l_pick : Stmt := top 29
abbrev s_l_common : Stmt := top 30
abbrev s_l_fraction : Stmt := top 31
abbrev s_l_number : Stmt := top 32
abbrev s_l_plus : Stmt := top 33
abbrev s_l_times : Stmt := top 34
abbrev s_l_minus : Stmt := top 35
abbrev s_l_draw_field : Stmt := top 36
abbrev s_l_draw_worth : Stmt := top 37
abbrev s_l_worth_row : Stmt := top 38
abbrev s_l_length : Stmt := top 39
abbrev s_l_count_v2 : Stmt := top 40
abbrev s_l_digits : Stmt := top 41
abbrev s_l_support : Stmt := top 42
abbrev s_l_sizes_v2 : Stmt := top 43
abbrev s_l_sizes_right : Stmt := top 44
def F_l_sizes_right : M Fl := (fSeq (fParS [3, 4] (amF (fCall m_l_length (aCons (fVar 0) (aCons (fVar 1) aNil))) (amF (fCall m_l_sizes_v2 (aCons (fVar 0) (aCons (fVar 1) (aCons (fVar 2) aNil)))) (mRet []))))
  (fSeq (fIfS (cB (fOp2 oNe (rVal (fCall m_sizes (aCons (fVar 0) (aCons (fVar 1) (aCons (fVar 2) aNil))))) (rVal (mBind (nLc (ftN 5) (iRg rg3 (aCons (rVar 2) (aCons (rVal (fOp2 oSub (rVal (fLit (.int 0))) (rVal (fLit (.int 1))))) (aCons (rVal (fOp2 oSub (rVal (fLit (.int 0))) (rVal (fLit (.int 2))))) aNil)))) (cB (fOp2 oNe (rVal (fOp2 oIx (rVar 4) (rVar 5))) (rVal (fLit (.int 0))))) (fTup (aCons (fVar 5) (aCons (fOp2 oIx (rVar 4) (rVar 5)) aNil))) [5]) fun ds => mRet (.lst ds))))) (fRet (fLit (.bl false))) fNx)
  (fSeq (fSet 6 (fLst aNil))
  (fSeq (fFor (ftN 7) (iRg rg3 (aCons (rVal (fOp2 oMod (rVar 2) (rVal (fLit (.int 2))))) (aCons (rVal (fOp2 oAdd (rVar 2) (rVal (fLit (.int 1))))) (aCons (rVal (fLit (.int 2))) aNil)))) (fSeq (fSetLc 8 (nLc (ftN 5) (iRg rg3 (aCons (rVar 7) (aCons (rVal (fOp2 oAdd (rVar 2) (rVal (fLit (.int 1))))) (aCons (rVal (fLit (.int 2))) aNil)))) (cAnd (cB (fOp2 oNe (rVal (fOp2 oIx (rVar 4) (rVar 5))) (rVal (fLit (.int 0))))) (cB (fOp2 oIn (rVal (fOp2 oAdd (rVar 7) (rVal (fLit (.int 1))))) (rVal (fCall m_l_support (aCons (fVar 0) (aCons (fVar 3) (aCons (fOp2 oAdd (rVar 5) (rVal (fLit (.int 1)))) aNil)))))))) (fVar 5) [5]))
  (fSeq (fIfS (cOr (cB (fOp2 oNe (rVal (fCall m_pieces_of (aCons (fVar 0) (aCons (fVar 1) (aCons (fVar 2) (aCons (fVar 7) aNil)))))) (rVal (fCallB cTuple (aCons (rVar 8) aNil))))) (cB (fOp2 oNe (rVal (fCallB cSum (aCons (rVal (mBind (nLc (ftN 5) (iAny (fVar 8)) (mRet true) (fOp2 oIx (rVar 4) (rVar 5)) [5]) fun ds => mRet (.lst ds))) aNil))) (rVal (fCall m_l_count_v2 (aCons (fVar 2) (aCons (fVar 7) aNil))))))) (fRet (fLit (.bl false))) fNx)
  (fSeq (fIfS (cOr (cB (fOp2 oNe (rVal (fCall m_size (aCons (fVar 0) (aCons (fVar 1) (aCons (fVar 2) (aCons (fVar 7) aNil)))))) (rVal (fOp2 oIx (rVar 4) (rVar 7))))) (cOr (cB (fOp2 oLt (rVal (fOp2 oIx (rVar 4) (rVar 7))) (rVal (fLit (.int 0))))) (cB (fOp2 oNe (rVal (fCall m_size (aCons (fVar 0) (aCons (fVar 1) (aCons (fVar 2) (aCons (fOp2 oAdd (rVar 7) (rVal (fLit (.int 1)))) aNil)))))) (rVal (fLit (.int 0))))))) (fRet (fLit (.bl false))) fNx)
  (fSeq (fSet 9 (fOp2 oEq (rVal (fOp2 oIx (rVar 4) (rVar 7))) (rVal (fCall m_l_count_v2 (aCons (fVar 2) (aCons (fVar 7) aNil))))))
  (fSeq (fIfS (cB (fOp2 oNe (rVal (fCallB cRepr (aCons (rVal (fCall m_keeps_all (aCons (fVar 0) (aCons (fVar 1) (aCons (fVar 2) (aCons (fVar 7) aNil)))))) aNil))) (rVal (fCallB cRepr (aCons (rVar 9) aNil))))) (fRet (fLit (.bl false))) fNx)
  (fSeq (fSet 6 (fOp2 oAdd (rVar 6) (rIf (cB (fVar 9)) (rVal (fLst aNil)) (rVal (fLst (aCons (fVar 7) aNil))))))
  (fSeq (fSet 10 (fIf (cB (fOp2 oNe (rVal (fOp2 oIx (rVar 4) (rVar 7))) (rVal (fLit (.int 0))))) (mBind (nLc (ftN 11) (iRg rg3 (aCons (rVal (fOp2 oMod (rVar 2) (rVal (fLit (.int 2))))) (aCons (rVal (fOp2 oAdd (rVar 7) (rVal (fLit (.int 1))))) (aCons (rVal (fLit (.int 2))) aNil)))) (cB (fOp2 oIn (rVal (fOp2 oAdd (rVar 11) (rVal (fLit (.int 1))))) (rVal (fCall m_l_support (aCons (fVar 0) (aCons (fVar 3) (aCons (fOp2 oAdd (rVar 7) (rVal (fLit (.int 1)))) aNil))))))) (fVar 11) [11]) fun ds => mRet (.lst ds)) (fLst aNil)))
  (fIfS (cOr (cB (fOp2 oNe (rVal (fCall m_shares_of (aCons (fVar 0) (aCons (fVar 1) (aCons (fVar 2) (aCons (fVar 7) aNil)))))) (rVal (fCallB cTuple (aCons (rVar 10) aNil))))) (cB (fOp2 oNe (rVal (fCall m_shares_of (aCons (fVar 0) (aCons (fVar 1) (aCons (fVar 2) (aCons (fOp2 oAdd (rVar 7) (rVal (fLit (.int 1)))) aNil)))))) (rVal (fTup aNil))))) (fRet (fLit (.bl false))) fNx)))))))))
  (fRet (fAndV (fOp2 oEq (rVal (fCall m_lost (aCons (fVar 0) (aCons (fVar 1) (aCons (fVar 2) aNil))))) (rVal (fCallB cTuple (aCons (rVar 6) aNil)))) (fOp2 oEq (rVal (fCallB cRepr (aCons (rVal (fCall m_all_kept (aCons (fVar 0) (aCons (fVar 1) (aCons (fVar 2) aNil))))) aNil))) (rVal (fCallB cRepr (aCons (rVal (fOp2 oEq (rVar 6) (rVal (fLst aNil)))) aNil))))))))))
def m_l_sizes_right : Fn := runF F_l_sizes_right 12
abbrev s_law : Stmt := top 45
def F_law : M Fl := (fSeq (fSet 1 (fCall m_l_open_cells (aCons (fVar 0) aNil)))
  (fSeq (fFor (ftN 2) (iRg rg1 (aCons (rVal (fLit (.int 3))) aNil)) (fSeq (fSet 3 (fCall m_l_draw_field (aCons (fVar 1) aNil)))
  (fSeq (fPar 4 5 (aCons (fCall m_l_draw_worth (aCons (fVar 1) (aCons (fVar 3) aNil))) (aCons (fCall m_l_pick (aCons (fVar 1) (aCons (fLit (.int 27)) aNil))) aNil)))
  (fIfS (cNot (cB (fCall m_l_sizes_right (aCons (fVar 3) (aCons (fVar 4) (aCons (fVar 5) aNil)))))) (fRet (fLit (.bl false))) fNx))))
  (fSeq (fSetN 6 (fCallN m_sizes (aCons (fVar 3) (aCons (fVar 4) (aCons (fVar 5) aNil)))))
  (fSeq (fDrop (fApp 6 (fLit .non)))
  (fSeq (fIfS (cOr (cB (fOp2 oNe (rVal (fCallB cLen (aCons (rVal (fCall m_sizes (aCons (fVar 3) (aCons (fVar 4) (aCons (fVar 5) aNil))))) aNil))) (rVal (fOp2 oSub (rVal (fCallB cLen (aCons (rVar 6) aNil))) (rVal (fLit (.int 1))))))) (cOr (cB (fOp2 oNe (rVal (fCall m_size (aCons (fVar 3) (aCons (fVar 4) (aCons (fVar 5) (aCons (fOp2 oAdd (rVar 5) (rVal (fLit (.int 2)))) aNil)))))) (rVal (fLit (.int 0))))) (cB (fOp2 oNe (rVal (fCall m_shares_of (aCons (fVar 3) (aCons (fVar 4) (aCons (fVar 5) (aCons (fOp2 oAdd (rVar 5) (rVal (fLit (.int 2)))) aNil)))))) (rVal (fTup aNil)))))) (fRet (fLit (.bl false))) fNx)
  (fRet (fOrV (fOp2 oGt (rVal (fCall m_l_pick (aCons (fVar 1) (aCons (fLit (.int 8)) aNil)))) (rVal (fLit (.int 0)))) (fAndV (fCall m_l_sizes_right (aCons (fLit (.int 2)) (aCons (fLit (.int 1)) (aCons (fLit (.int 44)) aNil)))) (fOp2 oEq (rVal (fOp2 oIx (rVal (fCall m_sizes (aCons (fLit (.int 2)) (aCons (fLit (.int 1)) (aCons (fLit (.int 60)) aNil))))) (rVal (fLit (.int 0))))) (rVal (fTup (aCons (fLit (.int 60)) (aCons (fLit (.int 1)) aNil)))))))))))))
def m_law : Fn := runF F_law 7
section
variable {P : Program} {w : World} {K : PySem.W.Frag} {mg : Str → Option Value} {base : Heap}
theorem sc_digits : FnScope ["p", "l", "number", "found", "rest"] ["p", "l", "number"] (defScope s_digits) := ⟨rfl, rfl, rfl, by decide +kernel, rfl, by decide +kernel, by decide +kernel⟩
theorem b_digits (T : Bl P w K mg)  {f : Addr} {fd : FuncData} (cdv : Value) (A : Around) (outer : List Env) (s : Shared) (H : Hp) (E : XK) (hr : Room 0 (A.deeper (envOfC "digits" (defScope s_digits) s.heap.objs.size f cdv))) :
    SSs (cxOf CX0 P w K mg base ["p", "l", "number", "found", "rest"] "digits" (defScope s_digits) f cdv A outer s H E).nox (defBody s_digits) F_digits := by
  have nd := sc_digits.nd
  exact (ss_cons (ss_if (st_cmp op_isN r_is (sr_var 1) (sr_val se_non)) (ss_one (ss_ret (se_tup (sa_cons (se_var 2) sa_nil)))) ss_nil)
    (ss_cons (ss_par2 3 4 (sam_n (sn_lst (sa_cons (se_op op_modN r_mod (sr_var 2) (sr_var 1)) sa_nil)) (sam_f (se_op o_div r_div (sr_var 2) (sr_var 1)) sam_nil)) nd)
    (ss_cons (ss_while rfl (st_cmp op_gt r_gt (sr_var 4) (sr_val se_int)) (ss_one (ss_if (st_cmp (op_eqD hr.units) r_eq (sr_var 0) (sr_val se_int)) (ss_cons (ss_expr (se_app 3 (se_var 4)))
    (ss_one (ss_set 4 se_int nd))) (ss_cons (ss_expr (se_app 3 (se_op op_modN r_mod (sr_var 4) (sr_var 0))))
    (ss_one (ss_set 4 (se_op o_div r_div (sr_var 4) (sr_var 0)) nd))))))
    (ss_one (ss_ret (se_callT call_tuple_of n_tuple T.b_tuple (sar_cons (sr_var 3) sar_nil)))))))
theorem d_digits_digits (T : Bl P w K mg)  {f : Addr} {fd : FuncData} (FU : Fun K "digits" "digits" s_digits f fd) (hm : mg "digits" = some (.ref f)) : Df P w K mg base "digits" ["p", "l", "number"] 1 m_digits :=
  df_mk' FU sc_digits (FU.binds fun _ _ _ _ _ _ us hl => match us, hl with | [_, _, _], _ => rfl) hm (by decide) (b_digits T  (fd := fd))
theorem sc_places : FnScope ["p", "l", "many", "found"] ["p", "l", "many"] (defScope s_places) := ⟨rfl, rfl, rfl, by decide +kernel, rfl, by decide +kernel, by decide +kernel⟩
theorem b_places (T : Bl P w K mg)  {f : Addr} {fd : FuncData} (cdv : Value) (A : Around) (outer : List Env) (s : Shared) (H : Hp) (E : XK) (hr : Room 0 (A.deeper (envOfC "places" (defScope s_places) s.heap.objs.size f cdv))) :
    SSs (cxOf CX0 P w K mg base ["p", "l", "many", "found"] "places" (defScope s_places) f cdv A outer s H E).nox (defBody s_places) F_places := by
  have nd := sc_places.nd
  exact (ss_cons (ss_setN 3 (sn_lst (sa_cons se_int sa_nil)) nd)
    (ss_cons (ss_while rfl (st_cmp op_lt r_lt (sr_val (se_callB call_lenA n_len T.b_len (sar_cons (sr_var 3) sar_nil))) (sr_var 2)) (ss_one (ss_expr (se_app 3 (se_op o_mul r_mul (sr_val (se_ix (hu_of hr) (sr_var 3) (sr_val (se_neg (sr_val se_int))))) (sr_ifExp (st_cmp (op_eqD hr.units) r_eq (sr_val (se_callB call_lenA n_len T.b_len (sar_cons (sr_var 3) sar_nil))) (sr_val se_int)) (sr_var 1) (sr_var 0)))))))
    (ss_one (ss_ret (se_var 3)))))
theorem d_places_places (T : Bl P w K mg)  {f : Addr} {fd : FuncData} (FU : Fun K "places" "places" s_places f fd) (hm : mg "places" = some (.ref f)) : Df P w K mg base "places" ["p", "l", "many"] 1 m_places :=
  df_mk' FU sc_places (FU.binds fun _ _ _ _ _ _ us hl => match us, hl with | [_, _, _], _ => rfl) hm (by decide) (b_places T  (fd := fd))
theorem sc_holds : FnScope ["p", "l", "k", "r", "told", "parts", "place", "digit", "rest", "part"] ["p", "l", "k", "r"] (defScope s_holds) := ⟨rfl, rfl, rfl, by decide +kernel, rfl, by decide +kernel, by decide +kernel⟩
theorem b_holds (T : Bl P w K mg) (D_digits : Df P w K mg base "digits" ["p", "l", "number"] 1 m_digits) (D_places : Df P w K mg base "places" ["p", "l", "many"] 1 m_places) {f : Addr} {fd : FuncData} (cdv : Value) (A : Around) (outer : List Env) (s : Shared) (H : Hp) (E : XK) (hr : Room 1 (A.deeper (envOfC "holds" (defScope s_holds) s.heap.objs.size f cdv))) :
    SSs (cxOf CX0 P w K mg base ["p", "l", "k", "r", "told", "parts", "place", "digit", "rest", "part"] "holds" (defScope s_holds) f cdv A outer s H E).nox (defBody s_holds) F_holds := by
  have nd := sc_holds.nd
  exact (ss_cons (ss_set 4 (se_call D_digits (hr.mono (by decide)) (sa_cons (se_var 0) (sa_cons (se_var 1) (sa_cons (se_op o_add r_add (sr_var 3) (sr_val se_int)) sa_nil))) (aLen_cons (aLen_cons (aLen_cons aLen_nil)))) nd)
    (ss_cons (ss_setLc 5 (own := [("digit", 7), ("place", 6)]) (g := (gTup _ 2 (gCons (gName 7) (gCons (gName 6) gNil)))) (ft := (ftT 2 (ftsCons (ftN 7) (ftsCons (ftN 6) ftsNil)))) (si_zip T.b_zip (sa_cons (se_var 4) (sa_cons (se_call D_places (hr.mono (by decide)) (sa_cons (se_var 0) (sa_cons (se_var 1) (sa_cons (se_callB call_lenA n_len T.b_len (sar_cons (sr_var 4) sar_nil)) sa_nil))) (aLen_cons (aLen_cons (aLen_cons aLen_nil)))) sa_nil))) (blkOk_by (N := ["p", "l", "k", "r", "told", "parts", "place", "digit", "rest", "part"]) (sc := defScope s_holds) (by decide +kernel)) nd (tg_tup 2 (tgs_cons (tg_name 7) (tgs_cons (tg_name 6) tgs_nil))) (fun _ _ _ _ _ => (pg_tup rfl (pgs_cons (pg_name (i := 7) nd rfl (by first | exact Or.inl rfl | exact Or.inr rfl)) (pgs_cons (pg_name (i := 6) nd rfl (by first | exact Or.inl rfl | exact Or.inr rfl)) pgs_nil)))) (fun _ _ _ _ _ => pts_nilS) (fun _ _ _ _ _ => (se_op o_mul r_mul (sr_var 7) (sr_var 6))) (by decide))
    (ss_cons (ss_set 8 (se_op op_sub r_sub (sr_val (se_op o_add r_add (sr_var 2) (sr_val se_int))) (sr_val (se_ix (hu_of hr) (sr_var 5) (sr_val (se_neg (sr_val se_int)))))) nd)
    (ss_cons (ss_for rfl (si_rev T.b_reversed (se_slice (sr_var 5) so_none (so_some (se_neg (sr_val se_int))))) (pg_name (i := 9) nd rfl (by first | exact Or.inl rfl | exact Or.inr rfl)) (tg_name 9) (ss_one (ss_if (st_cmp (op_neD hr.units) r_ne (sr_var 9) (sr_val se_int)) (ss_one (ss_set 8 (se_ifExp (st_cmp op_gt r_gt (sr_var 8) (sr_val se_int)) (se_op op_sub r_sub (sr_var 8) (sr_var 9)) (se_op o_add r_add (sr_var 8) (sr_var 9))) nd)) ss_nil)))
    (ss_one (ss_ret (se_cmp (op_eqD hr.units) r_eq (sr_var 8) (sr_val se_int))))))))
theorem d_holds_holds (T : Bl P w K mg) (D_digits : Df P w K mg base "digits" ["p", "l", "number"] 1 m_digits) (D_places : Df P w K mg base "places" ["p", "l", "many"] 1 m_places) {f : Addr} {fd : FuncData} (FU : Fun K "holds" "holds" s_holds f fd) (hm : mg "holds" = some (.ref f)) : Df P w K mg base "holds" ["p", "l", "k", "r"] 2 m_holds :=
  df_mk' FU sc_holds (FU.binds fun _ _ _ _ _ _ us hl => match us, hl with | [_, _, _, _], _ => rfl) hm (by decide) (b_holds T D_digits D_places (fd := fd))
theorem sc_next_over : FnScope ["p", "l", "k", "number", "place"] ["p", "l", "k"] (defScope s_next_over) := ⟨rfl, rfl, rfl, by decide +kernel, rfl, by decide +kernel, by decide +kernel⟩
theorem b_next_over (T : Bl P w K mg)  {f : Addr} {fd : FuncData} (cdv : Value) (A : Around) (outer : List Env) (s : Shared) (H : Hp) (E : XK) (hr : Room 0 (A.deeper (envOfC "next_over" (defScope s_next_over) s.heap.objs.size f cdv))) :
    SSs (cxOf CX0 P w K mg base ["p", "l", "k", "number", "place"] "next_over" (defScope s_next_over) f cdv A outer s H E).nox (defBody s_next_over) F_next_over := by
  have nd := sc_next_over.nd
  exact (ss_cons (ss_if (st_cmp op_isN r_is (sr_var 1) (sr_val se_non)) (ss_one (ss_ret se_non)) ss_nil)
    (ss_cons (ss_par 3 4 (sa_cons (se_op o_add r_add (sr_var 2) (sr_val se_int)) (sa_cons (se_var 1) sa_nil)) nd)
    (ss_cons (ss_while rfl (st_cmp (op_eqD hr.units) r_eq (sr_val (se_op op_modN r_mod (sr_var 3) (sr_var 4))) (sr_val se_int)) (ss_cons (ss_if (st_cmp (op_eqD hr.units) r_eq (sr_var 0) (sr_val se_int)) (ss_one (ss_ret se_non)) ss_nil)
    (ss_one (ss_set 4 (se_op o_mul r_mul (sr_var 4) (sr_var 0)) nd))))
    (ss_one (ss_ret (se_op op_sub r_sub (sr_val (se_op op_sub r_sub (sr_val (se_op o_mul r_mul (sr_val (se_op o_mul r_mul (sr_val se_int) (sr_val (se_op o_add r_add (sr_val (se_op o_div r_div (sr_var 3) (sr_var 4))) (sr_val se_int))))) (sr_var 4))) (sr_var 3))) (sr_val se_int)))))))
theorem d_next_over_next_over (T : Bl P w K mg)  {f : Addr} {fd : FuncData} (FU : Fun K "next_over" "next_over" s_next_over f fd) (hm : mg "next_over" = some (.ref f)) : Df P w K mg base "next_over" ["p", "l", "k"] 1 m_next_over :=
  df_mk' FU sc_next_over (FU.binds fun _ _ _ _ _ _ us hl => match us, hl with | [_, _, _], _ => rfl) hm (by decide) (b_next_over T  (fd := fd))
theorem sc_count : FnScope ["n", "k", "arcs"] ["n", "k"] (defScope s_count) := ⟨rfl, rfl, rfl, by decide +kernel, rfl, by decide +kernel, by decide +kernel⟩
theorem b_count (T : Bl P w K mg)  {f : Addr} {fd : FuncData} (cdv : Value) (A : Around) (outer : List Env) (s : Shared) (H : Hp) (E : XK) (hr : Room 0 (A.deeper (envOfC "count" (defScope s_count) s.heap.objs.size f cdv))) :
    SSs (cxOf CX0 P w K mg base ["n", "k", "arcs"] "count" (defScope s_count) f cdv A outer s H E).nox (defBody s_count) F_count := by
  have nd := sc_count.nd
  exact (ss_cons (ss_if (st_w (sw_or (st_cmp op_gt r_gt (sr_var 1) (sr_var 0)) (sw_or1 (st_cmp (op_eqD hr.units) r_eq (sr_val (se_op op_modN r_mod (sr_val (se_op op_sub r_sub (sr_var 0) (sr_var 1))) (sr_val se_int))) (sr_val se_int))))) (ss_one (ss_ret se_int)) ss_nil)
    (ss_cons (ss_set 2 (se_op o_div r_div (sr_val (se_op op_sub r_sub (sr_var 0) (sr_var 1))) (sr_val se_int)) nd)
    (ss_one (ss_ret (se_op op_sub r_sub (sr_val (se_comb T.g_comb (sar_cons (sr_var 0) (sar_cons (sr_var 2) sar_nil)))) (sr_ifExp (st_cmp op_gt r_gt (sr_var 2) (sr_val se_int)) (sr_val (se_comb T.g_comb (sar_cons (sr_var 0) (sar_cons (sr_val (se_op op_sub r_sub (sr_var 2) (sr_val se_int))) sar_nil)))) (sr_val se_int)))))))
theorem d_count_count (T : Bl P w K mg)  {f : Addr} {fd : FuncData} (FU : Fun K "count" "count" s_count f fd) (hm : mg "count" = some (.ref f)) : Df P w K mg base "count" ["n", "k"] 1 m_count :=
  df_mk' FU sc_count (FU.binds fun _ _ _ _ _ _ us hl => match us, hl with | [_, _], _ => rfl) hm (by decide) (b_count T  (fd := fd))
theorem sc_in_form : FnScope ["u", "e", "unit"] ["u", "e"] (defScope s_in_form) := ⟨rfl, rfl, rfl, by decide +kernel, rfl, by decide +kernel, by decide +kernel⟩
theorem b_in_form (T : Bl P w K mg)  {f : Addr} {fd : FuncData} (cdv : Value) (A : Around) (outer : List Env) (s : Shared) (H : Hp) (E : XK) (hr : Room 0 (A.deeper (envOfC "in_form" (defScope s_in_form) s.heap.objs.size f cdv))) :
    SSs (cxOf CX0 P w K mg base ["u", "e", "unit"] "in_form" (defScope s_in_form) f cdv A outer s H E).nox (defBody s_in_form) F_in_form := by
  have nd := sc_in_form.nd
  exact (ss_cons (ss_set 2 (se_ifExp (st_cmp op_gt r_gt (sr_var 1) (sr_val se_int)) (se_gcd T.g_gcd (sar_cons (sr_var 0) (sar_cons (sr_var 1) sar_nil))) (se_neg (sr_val (se_gcd T.g_gcd (sar_cons (sr_var 0) (sar_cons (sr_var 1) sar_nil)))))) nd)
    (ss_one (ss_ret (se_tup (sa_cons (se_op o_div r_div (sr_var 0) (sr_var 2)) (sa_cons (se_op o_div r_div (sr_var 1) (sr_var 2)) sa_nil))))))
theorem d_in_form_in_form (T : Bl P w K mg)  {f : Addr} {fd : FuncData} (FU : Fun K "in_form" "in_form" s_in_form f fd) (hm : mg "in_form" = some (.ref f)) : Df P w K mg base "in_form" ["u", "e"] 1 m_in_form :=
  df_mk' FU sc_in_form (FU.binds fun _ _ _ _ _ _ us hl => match us, hl with | [_, _], _ => rfl) hm (by decide) (b_in_form T  (fd := fd))
theorem sc_number : FnScope ["p", "n"] ["p", "n"] (defScope s_number) := ⟨rfl, rfl, rfl, by decide +kernel, rfl, by decide +kernel, by decide +kernel⟩
theorem b_number (T : Bl P w K mg)  {f : Addr} {fd : FuncData} (cdv : Value) (A : Around) (outer : List Env) (s : Shared) (H : Hp) (E : XK) (hr : Room 0 (A.deeper (envOfC "number" (defScope s_number) s.heap.objs.size f cdv))) :
    SSs (cxOf CX0 P w K mg base ["p", "n"] "number" (defScope s_number) f cdv A outer s H E).nox (defBody s_number) F_number := by
  have nd := sc_number.nd
  exact (ss_one (ss_ret (se_ifExp (st_cmp op_gt r_gt (sr_var 0) (sr_val se_int)) (se_op op_modN r_mod (sr_var 1) (sr_var 0)) (se_tup (sa_cons (se_var 1) (sa_cons se_int sa_nil))))))
theorem d_number_number (T : Bl P w K mg)  {f : Addr} {fd : FuncData} (FU : Fun K "number" "number" s_number f fd) (hm : mg "number" = some (.ref f)) : Df P w K mg base "number" ["p", "n"] 1 m_number :=
  df_mk' FU sc_number (FU.binds fun _ _ _ _ _ _ us hl => match us, hl with | [_, _], _ => rfl) hm (by decide) (b_number T  (fd := fd))
theorem sc_plus : FnScope ["p", "x", "y"] ["p", "x", "y"] (defScope s_plus) := ⟨rfl, rfl, rfl, by decide +kernel, rfl, by decide +kernel, by decide +kernel⟩
theorem b_plus (T : Bl P w K mg) (D_in_form : Df P w K mg base "in_form" ["u", "e"] 1 m_in_form) {f : Addr} {fd : FuncData} (cdv : Value) (A : Around) (outer : List Env) (s : Shared) (H : Hp) (E : XK) (hr : Room 1 (A.deeper (envOfC "plus" (defScope s_plus) s.heap.objs.size f cdv))) :
    SSs (cxOf CX0 P w K mg base ["p", "x", "y"] "plus" (defScope s_plus) f cdv A outer s H E).nox (defBody s_plus) F_plus := by
  have nd := sc_plus.nd
  exact (ss_one (ss_ret (se_ifExp (st_cmp op_gt r_gt (sr_var 0) (sr_val se_int)) (se_op op_modN r_mod (sr_val (se_op o_add r_add (sr_var 1) (sr_var 2))) (sr_var 0)) (se_call D_in_form (hr.mono (by decide)) (sa_cons (se_op o_add r_add (sr_val (se_op o_mul r_mul (sr_val (se_ix (hu_of hr) (sr_var 1) (sr_val se_int))) (sr_val (se_ix (hu_of hr) (sr_var 2) (sr_val se_int))))) (sr_val (se_op o_mul r_mul (sr_val (se_ix (hu_of hr) (sr_var 2) (sr_val se_int))) (sr_val (se_ix (hu_of hr) (sr_var 1) (sr_val se_int)))))) (sa_cons (se_op o_mul r_mul (sr_val (se_ix (hu_of hr) (sr_var 1) (sr_val se_int))) (sr_val (se_ix (hu_of hr) (sr_var 2) (sr_val se_int)))) sa_nil)) (aLen_cons (aLen_cons aLen_nil))))))
theorem d_plus_plus (T : Bl P w K mg) (D_in_form : Df P w K mg base "in_form" ["u", "e"] 1 m_in_form) {f : Addr} {fd : FuncData} (FU : Fun K "plus" "plus" s_plus f fd) (hm : mg "plus" = some (.ref f)) : Df P w K mg base "plus" ["p", "x", "y"] 2 m_plus :=
  df_mk' FU sc_plus (FU.binds fun _ _ _ _ _ _ us hl => match us, hl with | [_, _, _], _ => rfl) hm (by decide) (b_plus T D_in_form (fd := fd))
theorem sc_times : FnScope ["p", "x", "y"] ["p", "x", "y"] (defScope s_times) := ⟨rfl, rfl, rfl, by decide +kernel, rfl, by decide +kernel, by decide +kernel⟩
theorem b_times (T : Bl P w K mg) (D_in_form : Df P w K mg base "in_form" ["u", "e"] 1 m_in_form) {f : Addr} {fd : FuncData} (cdv : Value) (A : Around) (outer : List Env) (s : Shared) (H : Hp) (E : XK) (hr : Room 1 (A.deeper (envOfC "times" (defScope s_times) s.heap.objs.size f cdv))) :
    SSs (cxOf CX0 P w K mg base ["p", "x", "y"] "times" (defScope s_times) f cdv A outer s H E).nox (defBody s_times) F_times := by
  have nd := sc_times.nd
  exact (ss_one (ss_ret (se_ifExp (st_cmp op_gt r_gt (sr_var 0) (sr_val se_int)) (se_op op_modN r_mod (sr_val (se_op o_mul r_mul (sr_var 1) (sr_var 2))) (sr_var 0)) (se_call D_in_form (hr.mono (by decide)) (sa_cons (se_op o_mul r_mul (sr_val (se_ix (hu_of hr) (sr_var 1) (sr_val se_int))) (sr_val (se_ix (hu_of hr) (sr_var 2) (sr_val se_int)))) (sa_cons (se_op o_mul r_mul (sr_val (se_ix (hu_of hr) (sr_var 1) (sr_val se_int))) (sr_val (se_ix (hu_of hr) (sr_var 2) (sr_val se_int)))) sa_nil)) (aLen_cons (aLen_cons aLen_nil))))))
theorem d_times_times (T : Bl P w K mg) (D_in_form : Df P w K mg base "in_form" ["u", "e"] 1 m_in_form) {f : Addr} {fd : FuncData} (FU : Fun K "times" "times" s_times f fd) (hm : mg "times" = some (.ref f)) : Df P w K mg base "times" ["p", "x", "y"] 2 m_times :=
  df_mk' FU sc_times (FU.binds fun _ _ _ _ _ _ us hl => match us, hl with | [_, _, _], _ => rfl) hm (by decide) (b_times T D_in_form (fd := fd))
theorem sc_minus : FnScope ["p", "x", "y"] ["p", "x", "y"] (defScope s_minus) := ⟨rfl, rfl, rfl, by decide +kernel, rfl, by decide +kernel, by decide +kernel⟩
theorem b_minus (T : Bl P w K mg) (D_plus : Df P w K mg base "plus" ["p", "x", "y"] 2 m_plus) (D_times : Df P w K mg base "times" ["p", "x", "y"] 2 m_times) (D_number : Df P w K mg base "number" ["p", "n"] 1 m_number) {f : Addr} {fd : FuncData} (cdv : Value) (A : Around) (outer : List Env) (s : Shared) (H : Hp) (E : XK) (hr : Room 2 (A.deeper (envOfC "minus" (defScope s_minus) s.heap.objs.size f cdv))) :
    SSs (cxOf CX0 P w K mg base ["p", "x", "y"] "minus" (defScope s_minus) f cdv A outer s H E).nox (defBody s_minus) F_minus := by
  have nd := sc_minus.nd
  exact (ss_one (ss_ret (se_call D_plus (hr.mono (by decide)) (sa_cons (se_var 0) (sa_cons (se_var 1) (sa_cons (se_call D_times (hr.mono (by decide)) (sa_cons (se_var 0) (sa_cons (se_call D_number (hr.mono (by decide)) (sa_cons (se_var 0) (sa_cons (se_neg (sr_val se_int)) sa_nil)) (aLen_cons (aLen_cons aLen_nil))) (sa_cons (se_var 2) sa_nil))) (aLen_cons (aLen_cons (aLen_cons aLen_nil)))) sa_nil))) (aLen_cons (aLen_cons (aLen_cons aLen_nil))))))
theorem d_minus_minus (T : Bl P w K mg) (D_plus : Df P w K mg base "plus" ["p", "x", "y"] 2 m_plus) (D_times : Df P w K mg base "times" ["p", "x", "y"] 2 m_times) (D_number : Df P w K mg base "number" ["p", "n"] 1 m_number) {f : Addr} {fd : FuncData} (FU : Fun K "minus" "minus" s_minus f fd) (hm : mg "minus" = some (.ref f)) : Df P w K mg base "minus" ["p", "x", "y"] 3 m_minus :=
  df_mk' FU sc_minus (FU.binds fun _ _ _ _ _ _ us hl => match us, hl with | [_, _, _], _ => rfl) hm (by decide) (b_minus T D_plus D_times D_number (fd := fd))
theorem sc_worth_row : FnScope ["p", "d", "m", "row", "_turn"] ["p", "d", "m"] (defScope s_worth_row) := ⟨rfl, rfl, rfl, by decide +kernel, rfl, by decide +kernel, by decide +kernel⟩
theorem b_worth_row (T : Bl P w K mg) (D_number : Df P w K mg base "number" ["p", "n"] 1 m_number) (D_minus : Df P w K mg base "minus" ["p", "x", "y"] 3 m_minus) (D_times : Df P w K mg base "times" ["p", "x", "y"] 2 m_times) {f : Addr} {fd : FuncData} (cdv : Value) (A : Around) (outer : List Env) (s : Shared) (H : Hp) (E : XK) (hr : Room 3 (A.deeper (envOfC "worth_row" (defScope s_worth_row) s.heap.objs.size f cdv))) :
    SSs (cxOf CX0 P w K mg base ["p", "d", "m", "row", "_turn"] "worth_row" (defScope s_worth_row) f cdv A outer s H E).nox (defBody s_worth_row) F_worth_row := by
  have nd := sc_worth_row.nd
  exact (ss_cons (ss_setN 3 (sn_lst (sa_cons (se_call D_number (hr.mono (by decide)) (sa_cons (se_var 0) (sa_cons se_int sa_nil)) (aLen_cons (aLen_cons aLen_nil))) (sa_cons (se_var 1) sa_nil))) nd)
    (ss_cons (ss_for rfl (si_range1 T.b_range (sar_cons (sr_val (se_op op_sub r_sub (sr_var 2) (sr_val se_int))) sar_nil)) (pg_name (i := 4) nd rfl (by first | exact Or.inl rfl | exact Or.inr rfl)) (tg_name 4) (ss_one (ss_expr (se_app 3 (se_call D_minus (hr.mono (by decide)) (sa_cons (se_var 0) (sa_cons (se_call D_times (hr.mono (by decide)) (sa_cons (se_var 0) (sa_cons (se_var 1) (sa_cons (se_ix (hu_of hr) (sr_var 3) (sr_val (se_neg (sr_val se_int)))) sa_nil))) (aLen_cons (aLen_cons (aLen_cons aLen_nil)))) (sa_cons (se_ix (hu_of hr) (sr_var 3) (sr_val (se_neg (sr_val se_int)))) sa_nil))) (aLen_cons (aLen_cons (aLen_cons aLen_nil))))))))
    (ss_one (ss_ret (se_slice (sr_var 3) so_none (so_some (se_op o_add r_add (sr_var 2) (sr_val se_int))))))))
theorem d_worth_row_worth_row (T : Bl P w K mg) (D_number : Df P w K mg base "number" ["p", "n"] 1 m_number) (D_minus : Df P w K mg base "minus" ["p", "x", "y"] 3 m_minus) (D_times : Df P w K mg base "times" ["p", "x", "y"] 2 m_times) {f : Addr} {fd : FuncData} (FU : Fun K "worth_row" "worth_row" s_worth_row f fd) (hm : mg "worth_row" = some (.ref f)) : Df P w K mg base "worth_row" ["p", "d", "m"] 4 m_worth_row :=
  df_mk' FU sc_worth_row (FU.binds fun _ _ _ _ _ _ us hl => match us, hl with | [_, _, _], _ => rfl) hm (by decide) (b_worth_row T D_number D_minus D_times (fd := fd))
theorem sc_length : FnScope ["p", "d"] ["p", "d"] (defScope s_length) := ⟨rfl, rfl, rfl, by decide +kernel, rfl, by decide +kernel, by decide +kernel⟩
theorem b_length (T : Bl P w K mg) (D_worth_row : Df P w K mg base "worth_row" ["p", "d", "m"] 4 m_worth_row) {f : Addr} {fd : FuncData} (cdv : Value) (A : Around) (outer : List Env) (s : Shared) (H : Hp) (E : XK) (hr : Room 4 (A.deeper (envOfC "length" (defScope s_length) s.heap.objs.size f cdv))) :
    SSs (cxOf CX0 P w K mg base ["p", "d"] "length" (defScope s_length) f cdv A outer s H E).nox (defBody s_length) F_length := by
  have nd := sc_length.nd
  exact (ss_cons (ss_if (st_cmp (op_eqD hr.units) r_eq (sr_var 0) (sr_val se_int)) (ss_one (ss_ret (se_kgetE T.t_LENGTHS (hu_of hr) (se_var 1) ⟨rfl, rfl, rfl, rfl⟩))) ss_nil)
    (ss_one (ss_ret (se_op o_add r_add (sr_val (se_index (se_call D_worth_row (hr.mono (by decide)) (sa_cons (se_var 0) (sa_cons (se_var 1) (sa_cons (se_op o_add r_add (sr_var 0) (sr_val se_int)) sa_nil))) (aLen_cons (aLen_cons (aLen_cons aLen_nil)))) (sa_cons se_int sa_nil))) (sr_val se_int)))))
theorem d_length_length (T : Bl P w K mg) (D_worth_row : Df P w K mg base "worth_row" ["p", "d", "m"] 4 m_worth_row) {f : Addr} {fd : FuncData} (FU : Fun K "length" "length" s_length f fd) (hm : mg "length" = some (.ref f)) : Df P w K mg base "length" ["p", "d"] 5 m_length :=
  df_mk' FU sc_length (FU.binds fun _ _ _ _ _ _ us hl => match us, hl with | [_, _], _ => rfl) hm (by decide) (b_length T D_worth_row (fd := fd))
theorem sc_all_sizes : FnScope ["p", "d", "n", "l", "found", "r", "s"] ["p", "d", "n"] (defScope s_all_sizes) := ⟨rfl, rfl, rfl, by decide +kernel, rfl, by decide +kernel, by decide +kernel⟩
theorem b_all_sizes (T : Bl P w K mg) (D_length : Df P w K mg base "length" ["p", "d"] 5 m_length) (D_count : Df P w K mg base "count" ["n", "k"] 1 m_count) (D_holds : Df P w K mg base "holds" ["p", "l", "k", "r"] 2 m_holds) {f : Addr} {fd : FuncData} (cdv : Value) (A : Around) (outer : List Env) (s : Shared) (H : Hp) (E : XK) (hr : Room 5 (A.deeper (envOfC "all_sizes" (defScope s_all_sizes) s.heap.objs.size f cdv))) :
    SSs (cxOf CX0 P w K mg base ["p", "d", "n", "l", "found", "r", "s"] "all_sizes" (defScope s_all_sizes) f cdv A outer s H E).nox (defBody s_all_sizes) F_all_sizes := by
  have nd := sc_all_sizes.nd
  exact (ss_cons (ss_set 3 (se_call D_length (hr.mono (by decide)) (sa_cons (se_var 0) (sa_cons (se_var 1) sa_nil)) (aLen_cons (aLen_cons aLen_nil))) nd)
    (ss_cons (ss_setNK 4 snk_0 nd)
    (ss_cons (ss_for rfl (si_range3 T.b_range (sar_cons (sr_var 2) (sar_cons (sr_val (se_neg (sr_val se_int))) (sar_cons (sr_val (se_neg (sr_val se_int))) sar_nil))) fun t ht => pi_range3 rfl T.b_range ht) (pg_name (i := 5) nd rfl (by first | exact Or.inl rfl | exact Or.inr rfl)) (tg_name 5) (ss_one (ss_putK 4 (hu_of hr) (se_op op_sub r_sub (sr_val (se_call D_count (hr.mono (by decide)) (sa_cons (se_var 2) (sa_cons (se_var 5) sa_nil)) (aLen_cons (aLen_cons aLen_nil)))) (sr_val (se_callB (cr_sum rfl) n_sum T.b_sum (sar_cons (sr_val (se_of_n (sn_lc (own := [("s", 6)]) (g := (gName 6)) (ft := (ftN 6)) (si_range3 T.b_range (sar_cons (sr_val (se_op o_add r_add (sr_var 5) (sr_val se_int))) (sar_cons (sr_val (se_op o_add r_add (sr_var 2) (sr_val se_int))) (sar_cons (sr_val se_int) sar_nil))) fun t ht => pi_range3 rfl T.b_range ht) (blkOk_by (N := ["p", "d", "n", "l", "found", "r", "s"]) (sc := defScope s_all_sizes) (by decide +kernel)) nd (tg_name 6) (fun _ _ _ _ _ => (pg_name (i := 6) nd rfl (by first | exact Or.inl rfl | exact Or.inr rfl))) (fun _ _ _ _ _ => (pts_oneS (st_val (se_call D_holds (hr.mono (by decide)) (sa_cons (se_var 0) (sa_cons (se_var 3) (sa_cons (se_var 5) (sa_cons (se_var 6) sa_nil)))) (aLen_cons (aLen_cons (aLen_cons (aLen_cons aLen_nil)))))))) (fun _ _ _ _ _ => (se_ix (hu_of hr) (sr_var 4) (sr_var 6))) (by decide)))) sar_nil)))) (se_var 5) (hm := fun h1 h2 => ps_dput (hu_of hr) (pv 4) h2 h1 rfl))))
    (ss_one (ss_ret (se_var 4))))))
theorem d_all_sizes_all_sizes (T : Bl P w K mg) (D_length : Df P w K mg base "length" ["p", "d"] 5 m_length) (D_count : Df P w K mg base "count" ["n", "k"] 1 m_count) (D_holds : Df P w K mg base "holds" ["p", "l", "k", "r"] 2 m_holds) {f : Addr} {fd : FuncData} (FU : Fun K "all_sizes" "all_sizes" s_all_sizes f fd) (hm : mg "all_sizes" = some (.ref f)) : Df P w K mg base "all_sizes" ["p", "d", "n"] 6 m_all_sizes :=
  df_mk' FU sc_all_sizes (FU.binds fun _ _ _ _ _ _ us hl => match us, hl with | [_, _, _], _ => rfl) hm (by decide) (b_all_sizes T D_length D_count D_holds (fd := fd))
theorem sc_size : FnScope ["p", "d", "n", "r"] ["p", "d", "n", "r"] (defScope s_size) := ⟨rfl, rfl, rfl, by decide +kernel, rfl, by decide +kernel, by decide +kernel⟩
theorem b_size (T : Bl P w K mg) (D_all_sizes : Df P w K mg base "all_sizes" ["p", "d", "n"] 6 m_all_sizes) {f : Addr} {fd : FuncData} (cdv : Value) (A : Around) (outer : List Env) (s : Shared) (H : Hp) (E : XK) (hr : Room 6 (A.deeper (envOfC "size" (defScope s_size) s.heap.objs.size f cdv))) :
    SSs (cxOf CX0 P w K mg base ["p", "d", "n", "r"] "size" (defScope s_size) f cdv A outer s H E).nox (defBody s_size) F_size := by
  have nd := sc_size.nd
  exact (ss_one (ss_ret (se_get2 (hu_of hr) (sr_val (se_call D_all_sizes (hr.mono (by decide)) (sa_cons (se_var 0) (sa_cons (se_var 1) (sa_cons (se_var 2) sa_nil))) (aLen_cons (aLen_cons (aLen_cons aLen_nil))))) (se_var 3) se_int ⟨rfl, rfl, rfl, rfl⟩)))
theorem d_size_size (T : Bl P w K mg) (D_all_sizes : Df P w K mg base "all_sizes" ["p", "d", "n"] 6 m_all_sizes) {f : Addr} {fd : FuncData} (FU : Fun K "size" "size" s_size f fd) (hm : mg "size" = some (.ref f)) : Df P w K mg base "size" ["p", "d", "n", "r"] 7 m_size :=
  df_mk' FU sc_size (FU.binds fun _ _ _ _ _ _ us hl => match us, hl with | [_, _, _, _], _ => rfl) hm (by decide) (b_size T D_all_sizes (fd := fd))
theorem sc_sizes : FnScope ["p", "d", "n", "many", "r"] ["p", "d", "n"] (defScope s_sizes) := ⟨rfl, rfl, rfl, by decide +kernel, rfl, by decide +kernel, by decide +kernel⟩
theorem b_sizes (T : Bl P w K mg) (D_all_sizes : Df P w K mg base "all_sizes" ["p", "d", "n"] 6 m_all_sizes) {f : Addr} {fd : FuncData} (cdv : Value) (A : Around) (outer : List Env) (s : Shared) (H : Hp) (E : XK) (hr : Room 6 (A.deeper (envOfC "sizes" (defScope s_sizes) s.heap.objs.size f cdv))) :
    SSs (cxOf CX0 P w K mg base ["p", "d", "n", "many", "r"] "sizes" (defScope s_sizes) f cdv A outer s H E).nox (defBody s_sizes) F_sizes := by
  have nd := sc_sizes.nd
  exact (ss_one (ss_ret (se_of_n (sn_lc (own := [("r", 4), ("many", 3)]) (g := (gTup _ 2 (gCons (gName 4) (gCons (gName 3) gNil)))) (ft := (ftT 2 (ftsCons (ftN 4) (ftsCons (ftN 3) ftsNil)))) (si_items (se_call D_all_sizes (hr.mono (by decide)) (sa_cons (se_var 0) (sa_cons (se_var 1) (sa_cons (se_var 2) sa_nil))) (aLen_cons (aLen_cons (aLen_cons aLen_nil))))) (blkOk_by (N := ["p", "d", "n", "many", "r"]) (sc := defScope s_sizes) (by decide +kernel)) nd (tg_tup 2 (tgs_cons (tg_name 4) (tgs_cons (tg_name 3) tgs_nil))) (fun _ _ _ _ _ => (pg_tup rfl (pgs_cons (pg_name (i := 4) nd rfl (by first | exact Or.inl rfl | exact Or.inr rfl)) (pgs_cons (pg_name (i := 3) nd rfl (by first | exact Or.inl rfl | exact Or.inr rfl)) pgs_nil)))) (fun _ _ _ _ _ => (pts_oneS (st_cmp op_gt r_gt (sr_var 3) (sr_val se_int)))) (fun _ _ _ _ _ => (se_tup (sa_cons (se_var 4) (sa_cons (se_var 3) sa_nil)))) (by decide)))))
theorem d_sizes_sizes (T : Bl P w K mg) (D_all_sizes : Df P w K mg base "all_sizes" ["p", "d", "n"] 6 m_all_sizes) {f : Addr} {fd : FuncData} (FU : Fun K "sizes" "sizes" s_sizes f fd) (hm : mg "sizes" = some (.ref f)) : Df P w K mg base "sizes" ["p", "d", "n"] 7 m_sizes :=
  df_mk' FU sc_sizes (FU.binds fun _ _ _ _ _ _ us hl => match us, hl with | [_, _, _], _ => rfl) hm (by decide) (b_sizes T D_all_sizes (fd := fd))
theorem sc_pieces_of : FnScope ["p", "d", "n", "k", "l", "many", "r"] ["p", "d", "n", "k"] (defScope s_pieces_of) := ⟨rfl, rfl, rfl, by decide +kernel, rfl, by decide +kernel, by decide +kernel⟩
theorem b_pieces_of (T : Bl P w K mg) (D_length : Df P w K mg base "length" ["p", "d"] 5 m_length) (D_sizes : Df P w K mg base "sizes" ["p", "d", "n"] 7 m_sizes) (D_holds : Df P w K mg base "holds" ["p", "l", "k", "r"] 2 m_holds) {f : Addr} {fd : FuncData} (cdv : Value) (A : Around) (outer : List Env) (s : Shared) (H : Hp) (E : XK) (hr : Room 7 (A.deeper (envOfC "pieces_of" (defScope s_pieces_of) s.heap.objs.size f cdv))) :
    SSs (cxOf CX0 P w K mg base ["p", "d", "n", "k", "l", "many", "r"] "pieces_of" (defScope s_pieces_of) f cdv A outer s H E).nox (defBody s_pieces_of) F_pieces_of := by
  have nd := sc_pieces_of.nd
  exact (ss_cons (ss_set 4 (se_call D_length (hr.mono (by decide)) (sa_cons (se_var 0) (sa_cons (se_var 1) sa_nil)) (aLen_cons (aLen_cons aLen_nil))) nd)
    (ss_one (ss_ret (se_callT call_tuple_of n_tuple T.b_tuple (sar_cons (sr_val (se_callB cr_sortedI n_sortedI T.b_sorted (sar_cons (sr_val (se_of_n (sn_lc (own := [("r", 6), ("many", 5)]) (g := (gTup _ 2 (gCons (gName 6) (gCons (gName 5) gNil)))) (ft := (ftT 2 (ftsCons (ftN 6) (ftsCons (ftN 5) ftsNil)))) (si_any (se_call D_sizes (hr.mono (by decide)) (sa_cons (se_var 0) (sa_cons (se_var 1) (sa_cons (se_var 2) sa_nil))) (aLen_cons (aLen_cons (aLen_cons aLen_nil))))) (blkOk_by (N := ["p", "d", "n", "k", "l", "many", "r"]) (sc := defScope s_pieces_of) (by decide +kernel)) nd (tg_tup 2 (tgs_cons (tg_name 6) (tgs_cons (tg_name 5) tgs_nil))) (fun _ _ _ _ _ => (pg_tup rfl (pgs_cons (pg_name (i := 6) nd rfl (by first | exact Or.inl rfl | exact Or.inr rfl)) (pgs_cons (pg_name (i := 5) nd rfl (by first | exact Or.inl rfl | exact Or.inr rfl)) pgs_nil)))) (fun _ _ _ _ _ => (pts_oneS (st_val (se_call D_holds (hr.mono (by decide)) (sa_cons (se_var 0) (sa_cons (se_var 4) (sa_cons (se_var 3) (sa_cons (se_var 6) sa_nil)))) (aLen_cons (aLen_cons (aLen_cons (aLen_cons aLen_nil)))))))) (fun _ _ _ _ _ => (se_var 6)) (by decide)))) sar_nil))) sar_nil)))))
theorem d_pieces_of_pieces_of (T : Bl P w K mg) (D_length : Df P w K mg base "length" ["p", "d"] 5 m_length) (D_sizes : Df P w K mg base "sizes" ["p", "d", "n"] 7 m_sizes) (D_holds : Df P w K mg base "holds" ["p", "l", "k", "r"] 2 m_holds) {f : Addr} {fd : FuncData} (FU : Fun K "pieces_of" "pieces_of" s_pieces_of f fd) (hm : mg "pieces_of" = some (.ref f)) : Df P w K mg base "pieces_of" ["p", "d", "n", "k"] 8 m_pieces_of :=
  df_mk' FU sc_pieces_of (FU.binds fun _ _ _ _ _ _ us hl => match us, hl with | [_, _, _, _], _ => rfl) hm (by decide) (b_pieces_of T D_length D_sizes D_holds (fd := fd))
theorem sc_keeps_all : FnScope ["p", "d", "n", "k", "late"] ["p", "d", "n", "k"] (defScope s_keeps_all) := ⟨rfl, rfl, rfl, by decide +kernel, rfl, by decide +kernel, by decide +kernel⟩
theorem b_keeps_all (T : Bl P w K mg) (D_next_over : Df P w K mg base "next_over" ["p", "l", "k"] 1 m_next_over) (D_length : Df P w K mg base "length" ["p", "d"] 5 m_length) {f : Addr} {fd : FuncData} (cdv : Value) (A : Around) (outer : List Env) (s : Shared) (H : Hp) (E : XK) (hr : Room 5 (A.deeper (envOfC "keeps_all" (defScope s_keeps_all) s.heap.objs.size f cdv))) :
    SSs (cxOf CX0 P w K mg base ["p", "d", "n", "k", "late"] "keeps_all" (defScope s_keeps_all) f cdv A outer s H E).nox (defBody s_keeps_all) F_keeps_all := by
  have nd := sc_keeps_all.nd
  exact (ss_cons (ss_set 4 (se_call D_next_over (hr.mono (by decide)) (sa_cons (se_var 0) (sa_cons (se_call D_length (hr.mono (by decide)) (sa_cons (se_var 0) (sa_cons (se_var 1) sa_nil)) (aLen_cons (aLen_cons aLen_nil))) (sa_cons (se_var 3) sa_nil))) (aLen_cons (aLen_cons (aLen_cons aLen_nil)))) nd)
    (ss_one (ss_ret (se_or (se_cmp op_isN r_is (sr_var 4) (sr_val se_non)) (se_one (se_cmp op_gt r_gt (sr_var 4) (sr_var 2)))))))
theorem d_keeps_all_keeps_all (T : Bl P w K mg) (D_next_over : Df P w K mg base "next_over" ["p", "l", "k"] 1 m_next_over) (D_length : Df P w K mg base "length" ["p", "d"] 5 m_length) {f : Addr} {fd : FuncData} (FU : Fun K "keeps_all" "keeps_all" s_keeps_all f fd) (hm : mg "keeps_all" = some (.ref f)) : Df P w K mg base "keeps_all" ["p", "d", "n", "k"] 6 m_keeps_all :=
  df_mk' FU sc_keeps_all (FU.binds fun _ _ _ _ _ _ us hl => match us, hl with | [_, _, _, _], _ => rfl) hm (by decide) (b_keeps_all T D_next_over D_length (fd := fd))
theorem sc_lost : FnScope ["p", "d", "n", "k"] ["p", "d", "n"] (defScope s_lost) := ⟨rfl, rfl, rfl, by decide +kernel, rfl, by decide +kernel, by decide +kernel⟩
theorem b_lost (T : Bl P w K mg) (D_keeps_all : Df P w K mg base "keeps_all" ["p", "d", "n", "k"] 6 m_keeps_all) {f : Addr} {fd : FuncData} (cdv : Value) (A : Around) (outer : List Env) (s : Shared) (H : Hp) (E : XK) (hr : Room 6 (A.deeper (envOfC "lost" (defScope s_lost) s.heap.objs.size f cdv))) :
    SSs (cxOf CX0 P w K mg base ["p", "d", "n", "k"] "lost" (defScope s_lost) f cdv A outer s H E).nox (defBody s_lost) F_lost := by
  have nd := sc_lost.nd
  exact (ss_one (ss_ret (se_callT call_tuple_of n_tuple T.b_tuple (sar_cons (sr_val (se_of_n (sn_lc (own := [("k", 3)]) (g := (gName 3)) (ft := (ftN 3)) (si_range3 T.b_range (sar_cons (sr_val (se_op op_modN r_mod (sr_var 2) (sr_val se_int))) (sar_cons (sr_val (se_op o_add r_add (sr_var 2) (sr_val se_int))) (sar_cons (sr_val se_int) sar_nil))) fun t ht => pi_range3 rfl T.b_range ht) (blkOk_by (N := ["p", "d", "n", "k"]) (sc := defScope s_lost) (by decide +kernel)) nd (tg_name 3) (fun _ _ _ _ _ => (pg_name (i := 3) nd rfl (by first | exact Or.inl rfl | exact Or.inr rfl))) (fun _ _ _ _ _ => (pts_oneS (st_not (st_val (se_call D_keeps_all (hr.mono (by decide)) (sa_cons (se_var 0) (sa_cons (se_var 1) (sa_cons (se_var 2) (sa_cons (se_var 3) sa_nil)))) (aLen_cons (aLen_cons (aLen_cons (aLen_cons aLen_nil))))))))) (fun _ _ _ _ _ => (se_var 3)) (by decide)))) sar_nil))))
theorem d_lost_lost (T : Bl P w K mg) (D_keeps_all : Df P w K mg base "keeps_all" ["p", "d", "n", "k"] 6 m_keeps_all) {f : Addr} {fd : FuncData} (FU : Fun K "lost" "lost" s_lost f fd) (hm : mg "lost" = some (.ref f)) : Df P w K mg base "lost" ["p", "d", "n"] 7 m_lost :=
  df_mk' FU sc_lost (FU.binds fun _ _ _ _ _ _ us hl => match us, hl with | [_, _, _], _ => rfl) hm (by decide) (b_lost T D_keeps_all (fd := fd))
theorem sc_all_kept : FnScope ["p", "d", "n"] ["p", "d", "n"] (defScope s_all_kept) := ⟨rfl, rfl, rfl, by decide +kernel, rfl, by decide +kernel, by decide +kernel⟩
theorem b_all_kept (T : Bl P w K mg) (D_lost : Df P w K mg base "lost" ["p", "d", "n"] 7 m_lost) {f : Addr} {fd : FuncData} (cdv : Value) (A : Around) (outer : List Env) (s : Shared) (H : Hp) (E : XK) (hr : Room 7 (A.deeper (envOfC "all_kept" (defScope s_all_kept) s.heap.objs.size f cdv))) :
    SSs (cxOf CX0 P w K mg base ["p", "d", "n"] "all_kept" (defScope s_all_kept) f cdv A outer s H E).nox (defBody s_all_kept) F_all_kept := by
  have nd := sc_all_kept.nd
  exact (ss_one (ss_ret (se_cmp (op_eqD hr.units) r_eq (sr_val (se_call D_lost (hr.mono (by decide)) (sa_cons (se_var 0) (sa_cons (se_var 1) (sa_cons (se_var 2) sa_nil))) (aLen_cons (aLen_cons (aLen_cons aLen_nil))))) (sr_val (se_tup sa_nil)))))
theorem d_all_kept_all_kept (T : Bl P w K mg) (D_lost : Df P w K mg base "lost" ["p", "d", "n"] 7 m_lost) {f : Addr} {fd : FuncData} (FU : Fun K "all_kept" "all_kept" s_all_kept f fd) (hm : mg "all_kept" = some (.ref f)) : Df P w K mg base "all_kept" ["p", "d", "n"] 8 m_all_kept :=
  df_mk' FU sc_all_kept (FU.binds fun _ _ _ _ _ _ us hl => match us, hl with | [_, _, _], _ => rfl) hm (by decide) (b_all_kept T D_lost (fd := fd))
theorem sc_shares_of : FnScope ["p", "d", "n", "r", "l", "k"] ["p", "d", "n", "r"] (defScope s_shares_of) := ⟨rfl, rfl, rfl, by decide +kernel, rfl, by decide +kernel, by decide +kernel⟩
theorem b_shares_of (T : Bl P w K mg) (D_size : Df P w K mg base "size" ["p", "d", "n", "r"] 7 m_size) (D_length : Df P w K mg base "length" ["p", "d"] 5 m_length) (D_holds : Df P w K mg base "holds" ["p", "l", "k", "r"] 2 m_holds) {f : Addr} {fd : FuncData} (cdv : Value) (A : Around) (outer : List Env) (s : Shared) (H : Hp) (E : XK) (hr : Room 7 (A.deeper (envOfC "shares_of" (defScope s_shares_of) s.heap.objs.size f cdv))) :
    SSs (cxOf CX0 P w K mg base ["p", "d", "n", "r", "l", "k"] "shares_of" (defScope s_shares_of) f cdv A outer s H E).nox (defBody s_shares_of) F_shares_of := by
  have nd := sc_shares_of.nd
  exact (ss_cons (ss_if (st_cmp (op_eqD hr.units) r_eq (sr_val (se_call D_size (hr.mono (by decide)) (sa_cons (se_var 0) (sa_cons (se_var 1) (sa_cons (se_var 2) (sa_cons (se_var 3) sa_nil)))) (aLen_cons (aLen_cons (aLen_cons (aLen_cons aLen_nil)))))) (sr_val se_int)) (ss_one (ss_ret (se_tup sa_nil))) ss_nil)
    (ss_cons (ss_set 4 (se_call D_length (hr.mono (by decide)) (sa_cons (se_var 0) (sa_cons (se_var 1) sa_nil)) (aLen_cons (aLen_cons aLen_nil))) nd)
    (ss_one (ss_ret (se_callT call_tuple_of n_tuple T.b_tuple (sar_cons (sr_val (se_of_n (sn_lc (own := [("k", 5)]) (g := (gName 5)) (ft := (ftN 5)) (si_range3 T.b_range (sar_cons (sr_val (se_op op_modN r_mod (sr_var 2) (sr_val se_int))) (sar_cons (sr_val (se_op o_add r_add (sr_var 2) (sr_val se_int))) (sar_cons (sr_val se_int) sar_nil))) fun t ht => pi_range3 rfl T.b_range ht) (blkOk_by (N := ["p", "d", "n", "r", "l", "k"]) (sc := defScope s_shares_of) (by decide +kernel)) nd (tg_name 5) (fun _ _ _ _ _ => (pg_name (i := 5) nd rfl (by first | exact Or.inl rfl | exact Or.inr rfl))) (fun _ _ _ _ _ => (pts_oneS (st_val (se_call D_holds (hr.mono (by decide)) (sa_cons (se_var 0) (sa_cons (se_var 4) (sa_cons (se_var 5) (sa_cons (se_var 3) sa_nil)))) (aLen_cons (aLen_cons (aLen_cons (aLen_cons aLen_nil)))))))) (fun _ _ _ _ _ => (se_var 5)) (by decide)))) sar_nil))))))
theorem d_shares_of_shares_of (T : Bl P w K mg) (D_size : Df P w K mg base "size" ["p", "d", "n", "r"] 7 m_size) (D_length : Df P w K mg base "length" ["p", "d"] 5 m_length) (D_holds : Df P w K mg base "holds" ["p", "l", "k", "r"] 2 m_holds) {f : Addr} {fd : FuncData} (FU : Fun K "shares_of" "shares_of" s_shares_of f fd) (hm : mg "shares_of" = some (.ref f)) : Df P w K mg base "shares_of" ["p", "d", "n", "r"] 8 m_shares_of :=
  df_mk' FU sc_shares_of (FU.binds fun _ _ _ _ _ _ us hl => match us, hl with | [_, _, _, _], _ => rfl) hm (by decide) (b_shares_of T D_size D_length D_holds (fd := fd))
theorem sc_l_open_cells : FnScope ["script", "stirred", "cell", "cells"] ["script"] (defScope s_l_open_cells) := ⟨rfl, rfl, rfl, by decide +kernel, rfl, by decide +kernel, by decide +kernel⟩
theorem b_l_open_cells (T : Bl P w K mg)  {f : Addr} {fd : FuncData} (cdv : Value) (A : Around) (outer : List Env) (s : Shared) (H : Hp) (E : XK) (hr : Room 0 (A.deeper (envOfC "_law_open_cells" (defScope s_l_open_cells) s.heap.objs.size f cdv))) :
    SSs (cxOf CX0 P w K mg base ["script", "stirred", "cell", "cells"] "_law_open_cells" (defScope s_l_open_cells) f cdv A outer s H E).nox (defBody s_l_open_cells) F_l_open_cells := by
  have nd := sc_l_open_cells.nd
  exact (ss_cons (ss_set 1 se_int nd)
    (ss_cons (ss_for rfl (si_any (se_var 0)) (pg_name (i := 2) nd rfl (by first | exact Or.inl rfl | exact Or.inr rfl)) (tg_name 2) (ss_one (ss_set 1 (se_op op_modN r_mod (sr_val (se_callT call_int1 n_int T.b_int (sar_cons (sr_val (se_op o_add r_add (sr_val (se_op o_add r_add (sr_val (se_op o_mul r_mul (sr_var 1) (sr_val se_int))) (sr_val (se_op o_mul r_mul (sr_var 2) (sr_val se_int))))) (sr_val se_int))) sar_nil))) (sr_val se_int)) nd)))
    (ss_cons (ss_setLc 3 (own := [("cell", 2)]) (g := (gName 2)) (ft := (ftN 2)) (si_any (se_var 0)) (blkOk_by (N := ["script", "stirred", "cell", "cells"]) (sc := defScope s_l_open_cells) (by decide +kernel)) nd (tg_name 2) (fun _ _ _ _ _ => (pg_name (i := 2) nd rfl (by first | exact Or.inl rfl | exact Or.inr rfl))) (fun _ _ _ _ _ => pts_nilS) (fun _ _ _ _ _ => (se_callB call_abs n_abs T.b_abs (sar_cons (sr_var 2) sar_nil))) (by decide))
    (ss_one (ss_ret (se_openS 3 1))))))
theorem d_l_open_cells__law_open_cells (T : Bl P w K mg)  {f : Addr} {fd : FuncData} (FU : Fun K "_law_open_cells" "_law_open_cells" s_l_open_cells f fd) (hm : mg "_law_open_cells" = some (.ref f)) : Df P w K mg base "_law_open_cells" ["script"] 1 m_l_open_cells :=
  df_mk' FU sc_l_open_cells (FU.binds fun _ _ _ _ _ _ us hl => match us, hl with | [_], _ => rfl) hm (by decide) (b_l_open_cells T  (fd := fd))
theorem sc_l_pick : FnScope ["source", "most", "cells", "others", "lap", "stirred"] ["source", "most"] (defScope s_l_pick) := ⟨rfl, rfl, rfl, by decide +kernel, rfl, by decide +kernel, by decide +kernel⟩
theorem b_l_pick (T : Bl P w K mg)  {f : Addr} {fd : FuncData} (cdv : Value) (A : Around) (outer : List Env) (s : Shared) (H : Hp) (E : XK) (hr : Room 0 (A.deeper (envOfC "_law_pick" (defScope s_l_pick) s.heap.objs.size f cdv))) :
    SSs (cxOf CX0 P w K mg base ["source", "most", "cells", "others", "lap", "stirred"] "_law_pick" (defScope s_l_pick) f cdv A outer s H E).nox (defBody s_l_pick) F_l_pick := by
  have nd := sc_l_pick.nd
  exact (ss_cons (ss_if (st_cmp op_lt r_lt (sr_var 1) (sr_val se_int)) (ss_one (ss_ret se_int)) ss_nil)
    (ss_cons (ss_set 2 (se_srcCel 0 (hu_of hr)) nd)
    (ss_cons (ss_while rfl (st_w (sw_and (st_cmp op_lt r_lt (sr_val (se_srcGet 0 .left (hu_of hr))) (sr_val se_int)) (sw_and1 (st_cmp op_gt r_gt (sr_val (se_celLen 2 T.b_len)) (sr_val se_int))))) (ss_one (ss_srcPut 0 .left (hu_of hr) (se_celPop 2))))
    (ss_cons (ss_set 3 (se_srcGet 0 .left (hu_of hr)) nd)
    (ss_cons (ss_if (st_cmp op_gt r_gt (sr_var 3) (sr_val se_int)) (ss_cons (ss_srcPut 0 .left (hu_of hr) (se_op o_div r_div (sr_var 3) (sr_var 1)))
    (ss_one (ss_ret (se_op op_modN r_mod (sr_val (se_callT call_int1 n_int T.b_int (sar_cons (sr_var 3) sar_nil))) (sr_var 1))))) ss_nil)
    (ss_cons (ss_srcPut 0 .turn (hu_of hr) (se_op o_add r_add (sr_val (se_srcGet 0 .turn (hu_of hr))) (sr_val se_int)))
    (ss_cons (ss_set 4 (se_srcGet 0 .turn (hu_of hr)) nd)
    (ss_cons (ss_set 5 (se_op op_modN r_mod (sr_val (se_callT call_int1 n_int T.b_int (sar_cons (sr_val (se_op o_add r_add (sr_val (se_srcGet 0 .mixed (hu_of hr))) (sr_val (se_op o_mul r_mul (sr_var 4) (sr_val se_int))))) sar_nil))) (sr_val se_int)) nd)
    (ss_cons (ss_set 5 (se_op op_modN r_mod (sr_val (se_callT call_int1 n_int T.b_int (sar_cons (sr_val (se_op o_add r_add (sr_val (se_op o_mul r_mul (sr_var 5) (sr_var 5))) (sr_val (se_op o_mul r_mul (sr_var 4) (sr_val se_int))))) sar_nil))) (sr_val se_int)) nd)
    (ss_one (ss_ret (se_op op_modN r_mod (sr_val (se_callT call_int1 n_int T.b_int (sar_cons (sr_val (se_op o_div r_div (sr_var 5) (sr_val se_int))) sar_nil))) (sr_var 1)))))))))))))
theorem d_l_pick__law_pick (T : Bl P w K mg)  {f : Addr} {fd : FuncData} (FU : Fun K "_law_pick" "_law_pick" s_l_pick f fd) (hm : mg "_law_pick" = some (.ref f)) : Df P w K mg base "_law_pick" ["source", "most"] 1 m_l_pick :=
  df_mk' FU sc_l_pick (FU.binds fun _ _ _ _ _ _ us hl => match us, hl with | [_, _], _ => rfl) hm (by decide) (b_l_pick T  (fd := fd))
theorem sc_l_common : FnScope ["a", "b"] ["a", "b"] (defScope s_l_common) := ⟨rfl, rfl, rfl, by decide +kernel, rfl, by decide +kernel, by decide +kernel⟩
theorem b_l_common (T : Bl P w K mg)  {f : Addr} {fd : FuncData} (cdv : Value) (A : Around) (outer : List Env) (s : Shared) (H : Hp) (E : XK) (hr : Room 0 (A.deeper (envOfC "_law_common" (defScope s_l_common) s.heap.objs.size f cdv))) :
    SSs (cxOf CX0 P w K mg base ["a", "b"] "_law_common" (defScope s_l_common) f cdv A outer s H E).nox (defBody s_l_common) F_l_common := by
  have nd := sc_l_common.nd
  exact (ss_cons (ss_par 0 1 (sa_cons (se_callB call_abs n_abs T.b_abs (sar_cons (sr_var 0) sar_nil)) (sa_cons (se_callB call_abs n_abs T.b_abs (sar_cons (sr_var 1) sar_nil)) sa_nil)) nd)
    (ss_cons (ss_while rfl (st_cmp (op_neD hr.units) r_ne (sr_var 1) (sr_val se_int)) (ss_one (ss_par 0 1 (sa_cons (se_var 1) (sa_cons (se_op op_modN r_mod (sr_var 0) (sr_var 1)) sa_nil)) nd)))
    (ss_one (ss_ret (se_var 0)))))
theorem d_l_common__law_common (T : Bl P w K mg)  {f : Addr} {fd : FuncData} (FU : Fun K "_law_common" "_law_common" s_l_common f fd) (hm : mg "_law_common" = some (.ref f)) : Df P w K mg base "_law_common" ["a", "b"] 1 m_l_common :=
  df_mk' FU sc_l_common (FU.binds fun _ _ _ _ _ _ us hl => match us, hl with | [_, _], _ => rfl) hm (by decide) (b_l_common T  (fd := fd))
theorem sc_l_fraction : FnScope ["u", "d", "unit"] ["u", "d"] (defScope s_l_fraction) := ⟨rfl, rfl, rfl, by decide +kernel, rfl, by decide +kernel, by decide +kernel⟩
theorem b_l_fraction (T : Bl P w K mg) (D__law_common : Df P w K mg base "_law_common" ["a", "b"] 1 m_l_common) {f : Addr} {fd : FuncData} (cdv : Value) (A : Around) (outer : List Env) (s : Shared) (H : Hp) (E : XK) (hr : Room 1 (A.deeper (envOfC "_law_fraction" (defScope s_l_fraction) s.heap.objs.size f cdv))) :
    SSs (cxOf CX0 P w K mg base ["u", "d", "unit"] "_law_fraction" (defScope s_l_fraction) f cdv A outer s H E).nox (defBody s_l_fraction) F_l_fraction := by
  have nd := sc_l_fraction.nd
  exact (ss_cons (ss_set 2 (se_op o_mul r_mul (sr_val (se_call D__law_common (hr.mono (by decide)) (sa_cons (se_var 0) (sa_cons (se_var 1) sa_nil)) (aLen_cons (aLen_cons aLen_nil)))) (sr_ifExp (st_cmp op_gt r_gt (sr_var 1) (sr_val se_int)) (sr_val se_int) (sr_val (se_op op_sub r_sub (sr_val se_int) (sr_val se_int))))) nd)
    (ss_one (ss_ret (se_tup (sa_cons (se_op o_div r_div (sr_var 0) (sr_var 2)) (sa_cons (se_op o_div r_div (sr_var 1) (sr_var 2)) sa_nil))))))
theorem d_l_fraction__law_fraction (T : Bl P w K mg) (D__law_common : Df P w K mg base "_law_common" ["a", "b"] 1 m_l_common) {f : Addr} {fd : FuncData} (FU : Fun K "_law_fraction" "_law_fraction" s_l_fraction f fd) (hm : mg "_law_fraction" = some (.ref f)) : Df P w K mg base "_law_fraction" ["u", "d"] 2 m_l_fraction :=
  df_mk' FU sc_l_fraction (FU.binds fun _ _ _ _ _ _ us hl => match us, hl with | [_, _], _ => rfl) hm (by decide) (b_l_fraction T D__law_common (fd := fd))
theorem sc_l_number : FnScope ["p", "n"] ["p", "n"] (defScope s_l_number) := ⟨rfl, rfl, rfl, by decide +kernel, rfl, by decide +kernel, by decide +kernel⟩
theorem b_l_number (T : Bl P w K mg)  {f : Addr} {fd : FuncData} (cdv : Value) (A : Around) (outer : List Env) (s : Shared) (H : Hp) (E : XK) (hr : Room 0 (A.deeper (envOfC "_law_number" (defScope s_l_number) s.heap.objs.size f cdv))) :
    SSs (cxOf CX0 P w K mg base ["p", "n"] "_law_number" (defScope s_l_number) f cdv A outer s H E).nox (defBody s_l_number) F_l_number := by
  have nd := sc_l_number.nd
  exact (ss_one (ss_ret (se_ifExp (st_cmp op_gt r_gt (sr_var 0) (sr_val se_int)) (se_op op_modN r_mod (sr_var 1) (sr_var 0)) (se_tup (sa_cons (se_var 1) (sa_cons se_int sa_nil))))))
theorem d_l_number__law_number (T : Bl P w K mg)  {f : Addr} {fd : FuncData} (FU : Fun K "_law_number" "_law_number" s_l_number f fd) (hm : mg "_law_number" = some (.ref f)) : Df P w K mg base "_law_number" ["p", "n"] 1 m_l_number :=
  df_mk' FU sc_l_number (FU.binds fun _ _ _ _ _ _ us hl => match us, hl with | [_, _], _ => rfl) hm (by decide) (b_l_number T  (fd := fd))
theorem sc_l_plus : FnScope ["p", "x", "y"] ["p", "x", "y"] (defScope s_l_plus) := ⟨rfl, rfl, rfl, by decide +kernel, rfl, by decide +kernel, by decide +kernel⟩
theorem b_l_plus (T : Bl P w K mg) (D__law_fraction : Df P w K mg base "_law_fraction" ["u", "d"] 2 m_l_fraction) {f : Addr} {fd : FuncData} (cdv : Value) (A : Around) (outer : List Env) (s : Shared) (H : Hp) (E : XK) (hr : Room 2 (A.deeper (envOfC "_law_plus" (defScope s_l_plus) s.heap.objs.size f cdv))) :
    SSs (cxOf CX0 P w K mg base ["p", "x", "y"] "_law_plus" (defScope s_l_plus) f cdv A outer s H E).nox (defBody s_l_plus) F_l_plus := by
  have nd := sc_l_plus.nd
  exact (ss_one (ss_ret (se_ifExp (st_cmp op_gt r_gt (sr_var 0) (sr_val se_int)) (se_op op_modN r_mod (sr_val (se_op o_add r_add (sr_var 1) (sr_var 2))) (sr_var 0)) (se_call D__law_fraction (hr.mono (by decide)) (sa_cons (se_op o_add r_add (sr_val (se_op o_mul r_mul (sr_val (se_ix (hu_of hr) (sr_var 1) (sr_val se_int))) (sr_val (se_ix (hu_of hr) (sr_var 2) (sr_val se_int))))) (sr_val (se_op o_mul r_mul (sr_val (se_ix (hu_of hr) (sr_var 2) (sr_val se_int))) (sr_val (se_ix (hu_of hr) (sr_var 1) (sr_val se_int)))))) (sa_cons (se_op o_mul r_mul (sr_val (se_ix (hu_of hr) (sr_var 1) (sr_val se_int))) (sr_val (se_ix (hu_of hr) (sr_var 2) (sr_val se_int)))) sa_nil)) (aLen_cons (aLen_cons aLen_nil))))))
theorem d_l_plus__law_plus (T : Bl P w K mg) (D__law_fraction : Df P w K mg base "_law_fraction" ["u", "d"] 2 m_l_fraction) {f : Addr} {fd : FuncData} (FU : Fun K "_law_plus" "_law_plus" s_l_plus f fd) (hm : mg "_law_plus" = some (.ref f)) : Df P w K mg base "_law_plus" ["p", "x", "y"] 3 m_l_plus :=
  df_mk' FU sc_l_plus (FU.binds fun _ _ _ _ _ _ us hl => match us, hl with | [_, _, _], _ => rfl) hm (by decide) (b_l_plus T D__law_fraction (fd := fd))
theorem sc_l_times : FnScope ["p", "x", "y"] ["p", "x", "y"] (defScope s_l_times) := ⟨rfl, rfl, rfl, by decide +kernel, rfl, by decide +kernel, by decide +kernel⟩
theorem b_l_times (T : Bl P w K mg) (D__law_fraction : Df P w K mg base "_law_fraction" ["u", "d"] 2 m_l_fraction) {f : Addr} {fd : FuncData} (cdv : Value) (A : Around) (outer : List Env) (s : Shared) (H : Hp) (E : XK) (hr : Room 2 (A.deeper (envOfC "_law_times" (defScope s_l_times) s.heap.objs.size f cdv))) :
    SSs (cxOf CX0 P w K mg base ["p", "x", "y"] "_law_times" (defScope s_l_times) f cdv A outer s H E).nox (defBody s_l_times) F_l_times := by
  have nd := sc_l_times.nd
  exact (ss_one (ss_ret (se_ifExp (st_cmp op_gt r_gt (sr_var 0) (sr_val se_int)) (se_op op_modN r_mod (sr_val (se_op o_mul r_mul (sr_var 1) (sr_var 2))) (sr_var 0)) (se_call D__law_fraction (hr.mono (by decide)) (sa_cons (se_op o_mul r_mul (sr_val (se_ix (hu_of hr) (sr_var 1) (sr_val se_int))) (sr_val (se_ix (hu_of hr) (sr_var 2) (sr_val se_int)))) (sa_cons (se_op o_mul r_mul (sr_val (se_ix (hu_of hr) (sr_var 1) (sr_val se_int))) (sr_val (se_ix (hu_of hr) (sr_var 2) (sr_val se_int)))) sa_nil)) (aLen_cons (aLen_cons aLen_nil))))))
theorem d_l_times__law_times (T : Bl P w K mg) (D__law_fraction : Df P w K mg base "_law_fraction" ["u", "d"] 2 m_l_fraction) {f : Addr} {fd : FuncData} (FU : Fun K "_law_times" "_law_times" s_l_times f fd) (hm : mg "_law_times" = some (.ref f)) : Df P w K mg base "_law_times" ["p", "x", "y"] 3 m_l_times :=
  df_mk' FU sc_l_times (FU.binds fun _ _ _ _ _ _ us hl => match us, hl with | [_, _, _], _ => rfl) hm (by decide) (b_l_times T D__law_fraction (fd := fd))
theorem sc_l_minus : FnScope ["p", "x", "y"] ["p", "x", "y"] (defScope s_l_minus) := ⟨rfl, rfl, rfl, by decide +kernel, rfl, by decide +kernel, by decide +kernel⟩
theorem b_l_minus (T : Bl P w K mg) (D__law_plus : Df P w K mg base "_law_plus" ["p", "x", "y"] 3 m_l_plus) (D__law_times : Df P w K mg base "_law_times" ["p", "x", "y"] 3 m_l_times) (D__law_number : Df P w K mg base "_law_number" ["p", "n"] 1 m_l_number) {f : Addr} {fd : FuncData} (cdv : Value) (A : Around) (outer : List Env) (s : Shared) (H : Hp) (E : XK) (hr : Room 3 (A.deeper (envOfC "_law_minus" (defScope s_l_minus) s.heap.objs.size f cdv))) :
    SSs (cxOf CX0 P w K mg base ["p", "x", "y"] "_law_minus" (defScope s_l_minus) f cdv A outer s H E).nox (defBody s_l_minus) F_l_minus := by
  have nd := sc_l_minus.nd
  exact (ss_one (ss_ret (se_call D__law_plus (hr.mono (by decide)) (sa_cons (se_var 0) (sa_cons (se_var 1) (sa_cons (se_call D__law_times (hr.mono (by decide)) (sa_cons (se_var 0) (sa_cons (se_call D__law_number (hr.mono (by decide)) (sa_cons (se_var 0) (sa_cons (se_op op_sub r_sub (sr_val se_int) (sr_val se_int)) sa_nil)) (aLen_cons (aLen_cons aLen_nil))) (sa_cons (se_var 2) sa_nil))) (aLen_cons (aLen_cons (aLen_cons aLen_nil)))) sa_nil))) (aLen_cons (aLen_cons (aLen_cons aLen_nil))))))
theorem d_l_minus__law_minus (T : Bl P w K mg) (D__law_plus : Df P w K mg base "_law_plus" ["p", "x", "y"] 3 m_l_plus) (D__law_times : Df P w K mg base "_law_times" ["p", "x", "y"] 3 m_l_times) (D__law_number : Df P w K mg base "_law_number" ["p", "n"] 1 m_l_number) {f : Addr} {fd : FuncData} (FU : Fun K "_law_minus" "_law_minus" s_l_minus f fd) (hm : mg "_law_minus" = some (.ref f)) : Df P w K mg base "_law_minus" ["p", "x", "y"] 4 m_l_minus :=
  df_mk' FU sc_l_minus (FU.binds fun _ _ _ _ _ _ us hl => match us, hl with | [_, _, _], _ => rfl) hm (by decide) (b_l_minus T D__law_plus D__law_times D__law_number (fd := fd))
theorem sc_l_draw_field : FnScope ["source"] ["source"] (defScope s_l_draw_field) := ⟨rfl, rfl, rfl, by decide +kernel, rfl, by decide +kernel, by decide +kernel⟩
theorem b_l_draw_field (T : Bl P w K mg) (D__law_pick : Df P w K mg base "_law_pick" ["source", "most"] 1 m_l_pick) {f : Addr} {fd : FuncData} (cdv : Value) (A : Around) (outer : List Env) (s : Shared) (H : Hp) (E : XK) (hr : Room 1 (A.deeper (envOfC "_law_draw_field" (defScope s_l_draw_field) s.heap.objs.size f cdv))) :
    SSs (cxOf CX0 P w K mg base ["source"] "_law_draw_field" (defScope s_l_draw_field) f cdv A outer s H E).nox (defBody s_l_draw_field) F_l_draw_field := by
  have nd := sc_l_draw_field.nd
  exact (ss_one (ss_ret (se_ix (hu_of hr) (sr_val (se_lst (sa_cons se_int (sa_cons se_int (sa_cons se_int (sa_cons se_int (sa_cons se_int (sa_cons se_int (sa_cons se_int (sa_cons se_int (sa_cons se_int (sa_cons se_int sa_nil)))))))))))) (sr_val (se_call D__law_pick (hr.mono (by decide)) (sa_cons (se_var 0) (sa_cons se_int sa_nil)) (aLen_cons (aLen_cons aLen_nil)))))))
theorem d_l_draw_field__law_draw_field (T : Bl P w K mg) (D__law_pick : Df P w K mg base "_law_pick" ["source", "most"] 1 m_l_pick) {f : Addr} {fd : FuncData} (FU : Fun K "_law_draw_field" "_law_draw_field" s_l_draw_field f fd) (hm : mg "_law_draw_field" = some (.ref f)) : Df P w K mg base "_law_draw_field" ["source"] 2 m_l_draw_field :=
  df_mk' FU sc_l_draw_field (FU.binds fun _ _ _ _ _ _ us hl => match us, hl with | [_], _ => rfl) hm (by decide) (b_l_draw_field T D__law_pick (fd := fd))
theorem sc_l_draw_worth : FnScope ["source", "p"] ["source", "p"] (defScope s_l_draw_worth) := ⟨rfl, rfl, rfl, by decide +kernel, rfl, by decide +kernel, by decide +kernel⟩
theorem b_l_draw_worth (T : Bl P w K mg) (D__law_pick : Df P w K mg base "_law_pick" ["source", "most"] 1 m_l_pick) (D__law_fraction : Df P w K mg base "_law_fraction" ["u", "d"] 2 m_l_fraction) {f : Addr} {fd : FuncData} (cdv : Value) (A : Around) (outer : List Env) (s : Shared) (H : Hp) (E : XK) (hr : Room 2 (A.deeper (envOfC "_law_draw_worth" (defScope s_l_draw_worth) s.heap.objs.size f cdv))) :
    SSs (cxOf CX0 P w K mg base ["source", "p"] "_law_draw_worth" (defScope s_l_draw_worth) f cdv A outer s H E).nox (defBody s_l_draw_worth) F_l_draw_worth := by
  have nd := sc_l_draw_worth.nd
  exact (ss_cons (ss_if (st_cmp op_gt r_gt (sr_var 1) (sr_val se_int)) (ss_one (ss_ret (se_call D__law_pick (hr.mono (by decide)) (sa_cons (se_var 0) (sa_cons (se_var 1) sa_nil)) (aLen_cons (aLen_cons aLen_nil))))) ss_nil)
    (ss_one (ss_ret (se_call D__law_fraction (hr.mono (by decide)) (sa_cons (se_ix (hu_of hr) (sr_val (se_lst (sa_cons se_int (sa_cons se_int (sa_cons (se_op op_sub r_sub (sr_val se_int) (sr_val se_int)) (sa_cons se_int (sa_cons (se_op op_sub r_sub (sr_val se_int) (sr_val se_int)) (sa_cons se_int (sa_cons se_int sa_nil))))))))) (sr_val (se_call D__law_pick (hr.mono (by decide)) (sa_cons (se_var 0) (sa_cons se_int sa_nil)) (aLen_cons (aLen_cons aLen_nil))))) (sa_cons (se_ix (hu_of hr) (sr_val (se_lst (sa_cons se_int (sa_cons se_int (sa_cons se_int (sa_cons se_int sa_nil)))))) (sr_val (se_call D__law_pick (hr.mono (by decide)) (sa_cons (se_var 0) (sa_cons se_int sa_nil)) (aLen_cons (aLen_cons aLen_nil))))) sa_nil)) (aLen_cons (aLen_cons aLen_nil))))))
theorem d_l_draw_worth__law_draw_worth (T : Bl P w K mg) (D__law_pick : Df P w K mg base "_law_pick" ["source", "most"] 1 m_l_pick) (D__law_fraction : Df P w K mg base "_law_fraction" ["u", "d"] 2 m_l_fraction) {f : Addr} {fd : FuncData} (FU : Fun K "_law_draw_worth" "_law_draw_worth" s_l_draw_worth f fd) (hm : mg "_law_draw_worth" = some (.ref f)) : Df P w K mg base "_law_draw_worth" ["source", "p"] 3 m_l_draw_worth :=
  df_mk' FU sc_l_draw_worth (FU.binds fun _ _ _ _ _ _ us hl => match us, hl with | [_, _], _ => rfl) hm (by decide) (b_l_draw_worth T D__law_pick D__law_fraction (fd := fd))
theorem sc_l_worth_row : FnScope ["p", "d", "m", "row"] ["p", "d", "m"] (defScope s_l_worth_row) := ⟨rfl, rfl, rfl, by decide +kernel, rfl, by decide +kernel, by decide +kernel⟩
theorem b_l_worth_row (T : Bl P w K mg) (D__law_number : Df P w K mg base "_law_number" ["p", "n"] 1 m_l_number) (D__law_minus : Df P w K mg base "_law_minus" ["p", "x", "y"] 4 m_l_minus) (D__law_times : Df P w K mg base "_law_times" ["p", "x", "y"] 3 m_l_times) {f : Addr} {fd : FuncData} (cdv : Value) (A : Around) (outer : List Env) (s : Shared) (H : Hp) (E : XK) (hr : Room 4 (A.deeper (envOfC "_law_worth_row" (defScope s_l_worth_row) s.heap.objs.size f cdv))) :
    SSs (cxOf CX0 P w K mg base ["p", "d", "m", "row"] "_law_worth_row" (defScope s_l_worth_row) f cdv A outer s H E).nox (defBody s_l_worth_row) F_l_worth_row := by
  have nd := sc_l_worth_row.nd
  exact (ss_cons (ss_setN 3 (sn_lst (sa_cons (se_call D__law_number (hr.mono (by decide)) (sa_cons (se_var 0) (sa_cons se_int sa_nil)) (aLen_cons (aLen_cons aLen_nil))) (sa_cons (se_var 1) sa_nil))) nd)
    (ss_cons (ss_while rfl (st_cmp op_lt r_lt (sr_val (se_callB call_lenA n_len T.b_len (sar_cons (sr_var 3) sar_nil))) (sr_val (se_op o_add r_add (sr_var 2) (sr_val se_int)))) (ss_one (ss_expr (se_app 3 (se_call D__law_minus (hr.mono (by decide)) (sa_cons (se_var 0) (sa_cons (se_call D__law_times (hr.mono (by decide)) (sa_cons (se_var 0) (sa_cons (se_var 1) (sa_cons (se_ix (hu_of hr) (sr_var 3) (sr_val (se_op op_sub r_sub (sr_val (se_callB call_lenA n_len T.b_len (sar_cons (sr_var 3) sar_nil))) (sr_val se_int)))) sa_nil))) (aLen_cons (aLen_cons (aLen_cons aLen_nil)))) (sa_cons (se_ix (hu_of hr) (sr_var 3) (sr_val (se_op op_sub r_sub (sr_val (se_callB call_lenA n_len T.b_len (sar_cons (sr_var 3) sar_nil))) (sr_val se_int)))) sa_nil))) (aLen_cons (aLen_cons (aLen_cons aLen_nil))))))))
    (ss_one (ss_ret (se_slice (sr_var 3) so_none (so_some (se_op o_add r_add (sr_var 2) (sr_val se_int))))))))
theorem d_l_worth_row__law_worth_row (T : Bl P w K mg) (D__law_number : Df P w K mg base "_law_number" ["p", "n"] 1 m_l_number) (D__law_minus : Df P w K mg base "_law_minus" ["p", "x", "y"] 4 m_l_minus) (D__law_times : Df P w K mg base "_law_times" ["p", "x", "y"] 3 m_l_times) {f : Addr} {fd : FuncData} (FU : Fun K "_law_worth_row" "_law_worth_row" s_l_worth_row f fd) (hm : mg "_law_worth_row" = some (.ref f)) : Df P w K mg base "_law_worth_row" ["p", "d", "m"] 5 m_l_worth_row :=
  df_mk' FU sc_l_worth_row (FU.binds fun _ _ _ _ _ _ us hl => match us, hl with | [_, _, _], _ => rfl) hm (by decide) (b_l_worth_row T D__law_number D__law_minus D__law_times (fd := fd))
theorem sc_l_length : FnScope ["p", "d", "row", "spots", "l"] ["p", "d"] (defScope s_l_length) := ⟨rfl, rfl, rfl, by decide +kernel, rfl, by decide +kernel, by decide +kernel⟩
theorem b_l_length (T : Bl P w K mg) (D__law_worth_row : Df P w K mg base "_law_worth_row" ["p", "d", "m"] 5 m_l_worth_row) (D__law_number : Df P w K mg base "_law_number" ["p", "n"] 1 m_l_number) {f : Addr} {fd : FuncData} (cdv : Value) (A : Around) (outer : List Env) (s : Shared) (H : Hp) (E : XK) (hr : Room 5 (A.deeper (envOfC "_law_length" (defScope s_l_length) s.heap.objs.size f cdv))) :
    SSs (cxOf CX0 P w K mg base ["p", "d", "row", "spots", "l"] "_law_length" (defScope s_l_length) f cdv A outer s H E).nox (defBody s_l_length) F_l_length := by
  have nd := sc_l_length.nd
  exact (ss_cons (ss_set 2 (se_call D__law_worth_row (hr.mono (by decide)) (sa_cons (se_var 0) (sa_cons (se_var 1) (sa_cons (se_ifExp (st_cmp op_gt r_gt (sr_var 0) (sr_val se_int)) (se_op o_add r_add (sr_var 0) (sr_val se_int)) se_int) sa_nil))) (aLen_cons (aLen_cons (aLen_cons aLen_nil)))) nd)
    (ss_cons (ss_setLc 3 (own := [("l", 4)]) (g := (gName 4)) (ft := (ftN 4)) (si_range2 T.b_range (sar_cons (sr_val se_int) (sar_cons (sr_val (se_op o_add r_add (sr_val (se_callB call_lenA n_len T.b_len (sar_cons (sr_var 2) sar_nil))) (sr_val se_int))) sar_nil))) (blkOk_by (N := ["p", "d", "row", "spots", "l"]) (sc := defScope s_l_length) (by decide +kernel)) nd (tg_name 4) (fun _ _ _ _ _ => (pg_name (i := 4) nd rfl (by first | exact Or.inl rfl | exact Or.inr rfl))) (fun _ _ _ _ _ => (pts_oneS (st_cmp (op_eqD hr.units) r_eq (sr_val (se_ix (hu_of hr) (sr_var 2) (sr_val (se_op op_sub r_sub (sr_var 4) (sr_val se_int))))) (sr_val (se_call D__law_number (hr.mono (by decide)) (sa_cons (se_var 0) (sa_cons se_int sa_nil)) (aLen_cons (aLen_cons aLen_nil))))))) (fun _ _ _ _ _ => (se_var 4)) (by decide))
    (ss_one (ss_ret (se_ifExp (st_cmp (op_neD hr.units) r_ne (sr_var 3) (sr_val (se_lst sa_nil))) (se_ix (hu_of hr) (sr_var 3) (sr_val se_int)) se_non)))))
theorem d_l_length__law_length (T : Bl P w K mg) (D__law_worth_row : Df P w K mg base "_law_worth_row" ["p", "d", "m"] 5 m_l_worth_row) (D__law_number : Df P w K mg base "_law_number" ["p", "n"] 1 m_l_number) {f : Addr} {fd : FuncData} (FU : Fun K "_law_length" "_law_length" s_l_length f fd) (hm : mg "_law_length" = some (.ref f)) : Df P w K mg base "_law_length" ["p", "d"] 6 m_l_length :=
  df_mk' FU sc_l_length (FU.binds fun _ _ _ _ _ _ us hl => match us, hl with | [_, _], _ => rfl) hm (by decide) (b_l_length T D__law_worth_row D__law_number (fd := fd))
theorem sc_l_count_v2 : FnScope ["n", "k", "a", "ways", "i"] ["n", "k"] (defScope s_l_count_v2) := ⟨rfl, rfl, rfl, by decide +kernel, rfl, by decide +kernel, by decide +kernel⟩
theorem b_l_count_v2 (T : Bl P w K mg)  {f : Addr} {fd : FuncData} (cdv : Value) (A : Around) (outer : List Env) (s : Shared) (H : Hp) (E : XK) (hr : Room 0 (A.deeper (envOfC "_law_count" (defScope s_l_count_v2) s.heap.objs.size f cdv))) :
    SSs (cxOf CX0 P w K mg base ["n", "k", "a", "ways", "i"] "_law_count" (defScope s_l_count_v2) f cdv A outer s H E).nox (defBody s_l_count_v2) F_l_count_v2 := by
  have nd := sc_l_count_v2.nd
  exact (ss_cons (ss_if (st_w (sw_or (st_cmp op_lt r_lt (sr_var 1) (sr_val se_int)) (sw_or (st_cmp op_gt r_gt (sr_var 1) (sr_var 0)) (sw_or1 (st_cmp (op_eqD hr.units) r_eq (sr_val (se_op op_modN r_mod (sr_val (se_op op_sub r_sub (sr_var 0) (sr_var 1))) (sr_val se_int))) (sr_val se_int)))))) (ss_one (ss_ret se_int)) ss_nil)
    (ss_cons (ss_par 2 3 (sa_cons (se_op o_div r_div (sr_val (se_op op_sub r_sub (sr_var 0) (sr_var 1))) (sr_val se_int)) (sa_cons se_int sa_nil)) nd)
    (ss_cons (ss_for rfl (si_range1 T.b_range (sar_cons (sr_var 2) sar_nil)) (pg_name (i := 4) nd rfl (by first | exact Or.inl rfl | exact Or.inr rfl)) (tg_name 4) (ss_one (ss_set 3 (se_op o_div r_div (sr_val (se_op o_mul r_mul (sr_var 3) (sr_val (se_op op_sub r_sub (sr_var 0) (sr_var 4))))) (sr_val (se_op o_add r_add (sr_var 4) (sr_val se_int)))) nd)))
    (ss_one (ss_ret (se_op op_sub r_sub (sr_var 3) (sr_ifExp (st_cmp op_gt r_gt (sr_var 2) (sr_val se_int)) (sr_val (se_op o_div r_div (sr_val (se_op o_mul r_mul (sr_var 3) (sr_var 2))) (sr_val (se_op o_add r_add (sr_val (se_op op_sub r_sub (sr_var 0) (sr_var 2))) (sr_val se_int))))) (sr_val se_int))))))))
theorem d_l_count_v2__law_count (T : Bl P w K mg)  {f : Addr} {fd : FuncData} (FU : Fun K "_law_count" "_law_count" s_l_count_v2 f fd) (hm : mg "_law_count" = some (.ref f)) : Df P w K mg base "_law_count" ["n", "k"] 1 m_l_count_v2 :=
  df_mk' FU sc_l_count_v2 (FU.binds fun _ _ _ _ _ _ us hl => match us, hl with | [_, _], _ => rfl) hm (by decide) (b_l_count_v2 T  (fd := fd))
theorem sc_l_digits : FnScope ["p", "l", "whole", "found", "rest"] ["p", "l", "whole"] (defScope s_l_digits) := ⟨rfl, rfl, rfl, by decide +kernel, rfl, by decide +kernel, by decide +kernel⟩
theorem b_l_digits (T : Bl P w K mg)  {f : Addr} {fd : FuncData} (cdv : Value) (A : Around) (outer : List Env) (s : Shared) (H : Hp) (E : XK) (hr : Room 0 (A.deeper (envOfC "_law_digits" (defScope s_l_digits) s.heap.objs.size f cdv))) :
    SSs (cxOf CX0 P w K mg base ["p", "l", "whole", "found", "rest"] "_law_digits" (defScope s_l_digits) f cdv A outer s H E).nox (defBody s_l_digits) F_l_digits := by
  have nd := sc_l_digits.nd
  exact (ss_cons (ss_if (st_cmp op_isN r_is (sr_var 1) (sr_val se_non)) (ss_one (ss_ret (se_lst (sa_cons (se_var 2) sa_nil)))) ss_nil)
    (ss_cons (ss_par2 3 4 (sam_n (sn_lst (sa_cons (se_op op_modN r_mod (sr_var 2) (sr_var 1)) sa_nil)) (sam_f (se_op o_div r_div (sr_var 2) (sr_var 1)) sam_nil)) nd)
    (ss_cons (ss_while rfl (st_cmp op_gt r_gt (sr_var 4) (sr_val se_int)) (ss_cons (ss_expr (se_app 3 (se_ifExp (st_cmp op_gt r_gt (sr_var 0) (sr_val se_int)) (se_op op_modN r_mod (sr_var 4) (sr_var 0)) (se_var 4))))
    (ss_one (ss_set 4 (se_ifExp (st_cmp op_gt r_gt (sr_var 0) (sr_val se_int)) (se_op o_div r_div (sr_var 4) (sr_var 0)) se_int) nd))))
    (ss_one (ss_ret (se_var 3))))))
theorem d_l_digits__law_digits (T : Bl P w K mg)  {f : Addr} {fd : FuncData} (FU : Fun K "_law_digits" "_law_digits" s_l_digits f fd) (hm : mg "_law_digits" = some (.ref f)) : Df P w K mg base "_law_digits" ["p", "l", "whole"] 1 m_l_digits :=
  df_mk' FU sc_l_digits (FU.binds fun _ _ _ _ _ _ us hl => match us, hl with | [_, _, _], _ => rfl) hm (by decide) (b_l_digits T  (fd := fd))
theorem sc_l_support : FnScope ["p", "l", "whole", "told", "place", "parts", "digit", "j", "found", "part", "some"] ["p", "l", "whole"] (defScope s_l_support) := ⟨rfl, rfl, rfl, by decide +kernel, rfl, by decide +kernel, by decide +kernel⟩
theorem b_l_support (T : Bl P w K mg) (D__law_digits : Df P w K mg base "_law_digits" ["p", "l", "whole"] 1 m_l_digits) {f : Addr} {fd : FuncData} (cdv : Value) (A : Around) (outer : List Env) (s : Shared) (H : Hp) (E : XK) (hr : Room 1 (A.deeper (envOfC "_law_support" (defScope s_l_support) s.heap.objs.size f cdv))) :
    SSs (cxOf CX0 P w K mg base ["p", "l", "whole", "told", "place", "parts", "digit", "j", "found", "part", "some"] "_law_support" (defScope s_l_support) f cdv A outer s H E).nox (defBody s_l_support) F_l_support := by
  have nd := sc_l_support.nd
  exact (ss_cons (ss_par3 3 4 5 (sam_f (se_call D__law_digits (hr.mono (by decide)) (sa_cons (se_var 0) (sa_cons (se_var 1) (sa_cons (se_var 2) sa_nil))) (aLen_cons (aLen_cons (aLen_cons aLen_nil)))) (sam_f se_int (sam_n (sn_lst sa_nil) sam_nil))) nd)
    (ss_cons (ss_for rfl (si_enum T.b_enumerate (se_var 3)) (pg_tup rfl (pgs_cons (pg_name (i := 7) nd rfl (by first | exact Or.inl rfl | exact Or.inr rfl)) (pgs_cons (pg_name (i := 6) nd rfl (by first | exact Or.inl rfl | exact Or.inr rfl)) pgs_nil))) (tg_tup 2 (tgs_cons (tg_name 7) (tgs_cons (tg_name 6) tgs_nil))) (ss_cons (ss_expr (se_app 5 (se_op o_mul r_mul (sr_var 6) (sr_var 4))))
    (ss_one (ss_set 4 (se_op o_mul r_mul (sr_var 4) (sr_ifExp (st_w (sw_and (st_cmp (op_eqD hr.units) r_eq (sr_var 7) (sr_val se_int)) (sw_and1 (st_cmp op_notN r_isnot (sr_var 1) (sr_val se_non))))) (sr_var 1) (sr_val (se_callB (call_max2 rfl) n_max2 T.b_max (sar_cons (sr_var 0) (sar_cons (sr_val se_int) sar_nil)))))) nd))))
    (ss_cons (ss_set 8 (se_lst (sa_cons (se_ix (hu_of hr) (sr_var 5) (sr_val (se_op op_sub r_sub (sr_val (se_callB call_lenA n_len T.b_len (sar_cons (sr_var 5) sar_nil))) (sr_val se_int)))) sa_nil)) nd)
    (ss_cons (ss_for rfl (si_any (se_slice (sr_var 5) so_none (so_some (se_op op_sub r_sub (sr_val (se_callB call_lenA n_len T.b_len (sar_cons (sr_var 5) sar_nil))) (sr_val se_int))))) (pg_name (i := 9) nd rfl (by first | exact Or.inl rfl | exact Or.inr rfl)) (tg_name 9) (ss_one (ss_if (st_cmp op_gt r_gt (sr_var 9) (sr_val se_int)) (ss_one (ss_set 8 (se_op o_add r_add (sr_val (se_of_n (sn_lc (own := [("some", 10)]) (g := (gName 10)) (ft := (ftN 10)) (si_any (se_var 8)) (blkOk_by (N := ["p", "l", "whole", "told", "place", "parts", "digit", "j", "found", "part", "some"]) (sc := defScope s_l_support) (by decide +kernel)) nd (tg_name 10) (fun _ _ _ _ _ => (pg_name (i := 10) nd rfl (by first | exact Or.inl rfl | exact Or.inr rfl))) (fun _ _ _ _ _ => pts_nilS) (fun _ _ _ _ _ => (se_op o_add r_add (sr_var 10) (sr_var 9))) (by decide)))) (sr_val (se_of_n (sn_lc (own := [("some", 10)]) (g := (gName 10)) (ft := (ftN 10)) (si_any (se_var 8)) (blkOk_by (N := ["p", "l", "whole", "told", "place", "parts", "digit", "j", "found", "part", "some"]) (sc := defScope s_l_support) (by decide +kernel)) nd (tg_name 10) (fun _ _ _ _ _ => (pg_name (i := 10) nd rfl (by first | exact Or.inl rfl | exact Or.inr rfl))) (fun _ _ _ _ _ => pts_nilS) (fun _ _ _ _ _ => (se_op op_sub r_sub (sr_var 10) (sr_var 9))) (by decide))))) nd)) ss_nil)))
    (ss_one (ss_ret (se_callB cr_sortedI n_sortedI T.b_sorted (sar_cons (sr_var 8) sar_nil))))))))
theorem d_l_support__law_support (T : Bl P w K mg) (D__law_digits : Df P w K mg base "_law_digits" ["p", "l", "whole"] 1 m_l_digits) {f : Addr} {fd : FuncData} (FU : Fun K "_law_support" "_law_support" s_l_support f fd) (hm : mg "_law_support" = some (.ref f)) : Df P w K mg base "_law_support" ["p", "l", "whole"] 2 m_l_support :=
  df_mk' FU sc_l_support (FU.binds fun _ _ _ _ _ _ us hl => match us, hl with | [_, _, _], _ => rfl) hm (by decide) (b_l_support T D__law_digits (fd := fd))
theorem sc_l_sizes_v2 : FnScope ["p", "d", "n", "l", "found", "supports", "s", "r", "beyond"] ["p", "d", "n"] (defScope s_l_sizes_v2) := ⟨rfl, rfl, rfl, by decide +kernel, rfl, by decide +kernel, by decide +kernel⟩
theorem b_l_sizes_v2 (T : Bl P w K mg) (D__law_length : Df P w K mg base "_law_length" ["p", "d"] 6 m_l_length) (D__law_support : Df P w K mg base "_law_support" ["p", "l", "whole"] 2 m_l_support) (D__law_count : Df P w K mg base "_law_count" ["n", "k"] 1 m_l_count_v2) {f : Addr} {fd : FuncData} (cdv : Value) (A : Around) (outer : List Env) (s : Shared) (H : Hp) (E : XK) (hr : Room 6 (A.deeper (envOfC "_law_sizes" (defScope s_l_sizes_v2) s.heap.objs.size f cdv))) :
    SSs (cxOf CX0 P w K mg base ["p", "d", "n", "l", "found", "supports", "s", "r", "beyond"] "_law_sizes" (defScope s_l_sizes_v2) f cdv A outer s H E).nox (defBody s_l_sizes_v2) F_l_sizes_v2 := by
  have nd := sc_l_sizes_v2.nd
  exact (ss_cons (ss_parC [3, 4] (sam_f (se_call D__law_length (hr.mono (by decide)) (sa_cons (se_var 0) (sa_cons (se_var 1) sa_nil)) (aLen_cons (aLen_cons aLen_nil))) (sam_k snk_0 sam_nil)) (pg_tup rfl (pgs_cons (pg_name (i := 3) nd rfl (by first | exact Or.inl rfl | exact Or.inr rfl)) (pgs_cons (pg_name (i := 4) nd rfl (by first | exact Or.inl rfl | exact Or.inr rfl)) pgs_nil))) (gs2 (by decide)))
    (ss_cons (ss_set 5 (se_of_k (snk_dictP T.b_dict (sr_val (se_of_n (sn_lc (own := [("s", 6)]) (g := (gName 6)) (ft := (ftN 6)) (si_range3 T.b_range (sar_cons (sr_var 2) (sar_cons (sr_val (se_op op_sub r_sub (sr_val se_int) (sr_val se_int))) (sar_cons (sr_val (se_op op_sub r_sub (sr_val se_int) (sr_val se_int))) sar_nil))) fun t ht => pi_range3 rfl T.b_range ht) (blkOk_by (N := ["p", "d", "n", "l", "found", "supports", "s", "r", "beyond"]) (sc := defScope s_l_sizes_v2) (by decide +kernel)) nd (tg_name 6) (fun _ _ _ _ _ => (pg_name (i := 6) nd rfl (by first | exact Or.inl rfl | exact Or.inr rfl))) (fun _ _ _ _ _ => pts_nilS) (fun _ _ _ _ _ => (se_tup (sa_cons (se_var 6) (sa_cons (se_call D__law_support (hr.mono (by decide)) (sa_cons (se_var 0) (sa_cons (se_var 3) (sa_cons (se_op o_add r_add (sr_var 6) (sr_val se_int)) sa_nil))) (aLen_cons (aLen_cons (aLen_cons aLen_nil)))) sa_nil)))) (by decide)))))) nd)
    (ss_cons (ss_for rfl (si_range3 T.b_range (sar_cons (sr_var 2) (sar_cons (sr_val (se_op op_sub r_sub (sr_val se_int) (sr_val se_int))) (sar_cons (sr_val (se_op op_sub r_sub (sr_val se_int) (sr_val se_int))) sar_nil))) fun t ht => pi_range3 rfl T.b_range ht) (pg_name (i := 7) nd rfl (by first | exact Or.inl rfl | exact Or.inr rfl)) (tg_name 7) (ss_cons (ss_setLc 8 (own := [("s", 6)]) (g := (gName 6)) (ft := (ftN 6)) (si_range3 T.b_range (sar_cons (sr_var 2) (sar_cons (sr_var 7) (sar_cons (sr_val (se_op op_sub r_sub (sr_val se_int) (sr_val se_int))) sar_nil))) fun t ht => pi_range3 rfl T.b_range ht) (blkOk_by (N := ["p", "d", "n", "l", "found", "supports", "s", "r", "beyond"]) (sc := defScope s_l_sizes_v2) (by decide +kernel)) nd (tg_name 6) (fun _ _ _ _ _ => (pg_name (i := 6) nd rfl (by first | exact Or.inl rfl | exact Or.inr rfl))) (fun _ _ _ _ _ => (pts_oneS (st_cmp (o_in (hu65 hr)) r_in (sr_val (se_op o_add r_add (sr_var 7) (sr_val se_int))) (sr_val (se_ix (hu_of hr) (sr_var 5) (sr_var 6)))))) (fun _ _ _ _ _ => (se_ix (hu_of hr) (sr_var 4) (sr_var 6))) (by decide))
    (ss_one (ss_putK 4 (hu_of hr) (se_op op_sub r_sub (sr_val (se_call D__law_count (hr.mono (by decide)) (sa_cons (se_var 2) (sa_cons (se_var 7) sa_nil)) (aLen_cons (aLen_cons aLen_nil)))) (sr_val (se_callB (cr_sum rfl) n_sum T.b_sum (sar_cons (sr_var 8) sar_nil)))) (se_var 7) (hm := fun h1 h2 => ps_dput (hu_of hr) (pv 4) h2 h1 rfl)))))
    (ss_one (ss_ret (se_var 4))))))
theorem d_l_sizes_v2__law_sizes (T : Bl P w K mg) (D__law_length : Df P w K mg base "_law_length" ["p", "d"] 6 m_l_length) (D__law_support : Df P w K mg base "_law_support" ["p", "l", "whole"] 2 m_l_support) (D__law_count : Df P w K mg base "_law_count" ["n", "k"] 1 m_l_count_v2) {f : Addr} {fd : FuncData} (FU : Fun K "_law_sizes" "_law_sizes" s_l_sizes_v2 f fd) (hm : mg "_law_sizes" = some (.ref f)) : Df P w K mg base "_law_sizes" ["p", "d", "n"] 7 m_l_sizes_v2 :=
  df_mk' FU sc_l_sizes_v2 (FU.binds fun _ _ _ _ _ _ us hl => match us, hl with | [_, _, _], _ => rfl) hm (by decide) (b_l_sizes_v2 T D__law_length D__law_support D__law_count (fd := fd))
theorem sc_l_sizes_right : FnScope ["p", "d", "n", "l", "due", "r", "none", "k", "own", "is_kept", "shares", "j"] ["p", "d", "n"] (defScope s_l_sizes_right) := ⟨rfl, rfl, rfl, by decide +kernel, rfl, by decide +kernel, by decide +kernel⟩
theorem b_l_sizes_right (T : Bl P w K mg) (D__law_sizes : Df P w K mg base "_law_sizes" ["p", "d", "n"] 7 m_l_sizes_v2) (D__law_length : Df P w K mg base "_law_length" ["p", "d"] 6 m_l_length) (D_sizes : Df P w K mg base "sizes" ["p", "d", "n"] 7 m_sizes) (D__law_support : Df P w K mg base "_law_support" ["p", "l", "whole"] 2 m_l_support) (D_pieces_of : Df P w K mg base "pieces_of" ["p", "d", "n", "k"] 8 m_pieces_of) (D__law_count : Df P w K mg base "_law_count" ["n", "k"] 1 m_l_count_v2) (D_size : Df P w K mg base "size" ["p", "d", "n", "r"] 7 m_size) (D_keeps_all : Df P w K mg base "keeps_all" ["p", "d", "n", "k"] 6 m_keeps_all) (D_shares_of : Df P w K mg base "shares_of" ["p", "d", "n", "r"] 8 m_shares_of) (D_lost : Df P w K mg base "lost" ["p", "d", "n"] 7 m_lost) (D_all_kept : Df P w K mg base "all_kept" ["p", "d", "n"] 8 m_all_kept) {f : Addr} {fd : FuncData} (cdv : Value) (A : Around) (outer : List Env) (s : Shared) (H : Hp) (E : XK) (hr : Room 8 (A.deeper (envOfC "_law_sizes_right" (defScope s_l_sizes_right) s.heap.objs.size f cdv))) :
    SSs (cxOf CX0 P w K mg base ["p", "d", "n", "l", "due", "r", "none", "k", "own", "is_kept", "shares", "j"] "_law_sizes_right" (defScope s_l_sizes_right) f cdv A outer s H E).nox (defBody s_l_sizes_right) F_l_sizes_right := by
  have nd := sc_l_sizes_right.nd
  exact (ss_cons (ss_parC [3, 4] (sam_f (se_call D__law_length (hr.mono (by decide)) (sa_cons (se_var 0) (sa_cons (se_var 1) sa_nil)) (aLen_cons (aLen_cons aLen_nil))) (sam_f (se_call D__law_sizes (hr.mono (by decide)) (sa_cons (se_var 0) (sa_cons (se_var 1) (sa_cons (se_var 2) sa_nil))) (aLen_cons (aLen_cons (aLen_cons aLen_nil)))) sam_nil)) (pg_tup rfl (pgs_cons (pg_name (i := 3) nd rfl (by first | exact Or.inl rfl | exact Or.inr rfl)) (pgs_cons (pg_name (i := 4) nd rfl (by first | exact Or.inl rfl | exact Or.inr rfl)) pgs_nil))) (gs2 (by decide)))
    (ss_cons (ss_if (st_cmp (op_neD hr.units) r_ne (sr_val (se_call D_sizes (hr.mono (by decide)) (sa_cons (se_var 0) (sa_cons (se_var 1) (sa_cons (se_var 2) sa_nil))) (aLen_cons (aLen_cons (aLen_cons aLen_nil))))) (sr_val (se_of_n (sn_lc (own := [("r", 5)]) (g := (gName 5)) (ft := (ftN 5)) (si_range3 T.b_range (sar_cons (sr_var 2) (sar_cons (sr_val (se_op op_sub r_sub (sr_val se_int) (sr_val se_int))) (sar_cons (sr_val (se_op op_sub r_sub (sr_val se_int) (sr_val se_int))) sar_nil))) fun t ht => pi_range3 rfl T.b_range ht) (blkOk_by (N := ["p", "d", "n", "l", "due", "r", "none", "k", "own", "is_kept", "shares", "j"]) (sc := defScope s_l_sizes_right) (by decide +kernel)) nd (tg_name 5) (fun _ _ _ _ _ => (pg_name (i := 5) nd rfl (by first | exact Or.inl rfl | exact Or.inr rfl))) (fun _ _ _ _ _ => (pts_oneS (st_cmp (op_neD hr.units) r_ne (sr_val (se_ix (hu_of hr) (sr_var 4) (sr_var 5))) (sr_val se_int)))) (fun _ _ _ _ _ => (se_tup (sa_cons (se_var 5) (sa_cons (se_ix (hu_of hr) (sr_var 4) (sr_var 5)) sa_nil)))) (by decide))))) (ss_one (ss_ret se_bl)) ss_nil)
    (ss_cons (ss_set 6 (se_lst sa_nil) nd)
    (ss_cons (ss_for rfl (si_range3 T.b_range (sar_cons (sr_val (se_op op_modN r_mod (sr_var 2) (sr_val se_int))) (sar_cons (sr_val (se_op o_add r_add (sr_var 2) (sr_val se_int))) (sar_cons (sr_val se_int) sar_nil))) fun t ht => pi_range3 rfl T.b_range ht) (pg_name (i := 7) nd rfl (by first | exact Or.inl rfl | exact Or.inr rfl)) (tg_name 7) (ss_cons (ss_setLc 8 (own := [("r", 5)]) (g := (gName 5)) (ft := (ftN 5)) (si_range3 T.b_range (sar_cons (sr_var 7) (sar_cons (sr_val (se_op o_add r_add (sr_var 2) (sr_val se_int))) (sar_cons (sr_val se_int) sar_nil))) fun t ht => pi_range3 rfl T.b_range ht) (blkOk_by (N := ["p", "d", "n", "l", "due", "r", "none", "k", "own", "is_kept", "shares", "j"]) (sc := defScope s_l_sizes_right) (by decide +kernel)) nd (tg_name 5) (fun _ _ _ _ _ => (pg_name (i := 5) nd rfl (by first | exact Or.inl rfl | exact Or.inr rfl))) (fun _ _ _ _ _ => (pts_oneS (st_w (sw_and (st_cmp (op_neD hr.units) r_ne (sr_val (se_ix (hu_of hr) (sr_var 4) (sr_var 5))) (sr_val se_int)) (sw_and1 (st_cmp (o_in (hu65 hr)) r_in (sr_val (se_op o_add r_add (sr_var 7) (sr_val se_int))) (sr_val (se_call D__law_support (hr.mono (by decide)) (sa_cons (se_var 0) (sa_cons (se_var 3) (sa_cons (se_op o_add r_add (sr_var 5) (sr_val se_int)) sa_nil))) (aLen_cons (aLen_cons (aLen_cons aLen_nil))))))))))) (fun _ _ _ _ _ => (se_var 5)) (by decide))
    (ss_cons (ss_if (st_w (sw_or (st_cmp (op_neD hr.units) r_ne (sr_val (se_call D_pieces_of (hr.mono (by decide)) (sa_cons (se_var 0) (sa_cons (se_var 1) (sa_cons (se_var 2) (sa_cons (se_var 7) sa_nil)))) (aLen_cons (aLen_cons (aLen_cons (aLen_cons aLen_nil)))))) (sr_val (se_callT call_tuple_of n_tuple T.b_tuple (sar_cons (sr_var 8) sar_nil)))) (sw_or1 (st_cmp (op_neD hr.units) r_ne (sr_val (se_callB (cr_sum rfl) n_sum T.b_sum (sar_cons (sr_val (se_of_n (sn_lc (own := [("r", 5)]) (g := (gName 5)) (ft := (ftN 5)) (si_any (se_var 8)) (blkOk_by (N := ["p", "d", "n", "l", "due", "r", "none", "k", "own", "is_kept", "shares", "j"]) (sc := defScope s_l_sizes_right) (by decide +kernel)) nd (tg_name 5) (fun _ _ _ _ _ => (pg_name (i := 5) nd rfl (by first | exact Or.inl rfl | exact Or.inr rfl))) (fun _ _ _ _ _ => pts_nilS) (fun _ _ _ _ _ => (se_ix (hu_of hr) (sr_var 4) (sr_var 5))) (by decide)))) sar_nil))) (sr_val (se_call D__law_count (hr.mono (by decide)) (sa_cons (se_var 2) (sa_cons (se_var 7) sa_nil)) (aLen_cons (aLen_cons aLen_nil)))))))) (ss_one (ss_ret se_bl)) ss_nil)
    (ss_cons (ss_if (st_w (sw_or (st_cmp (op_neD hr.units) r_ne (sr_val (se_call D_size (hr.mono (by decide)) (sa_cons (se_var 0) (sa_cons (se_var 1) (sa_cons (se_var 2) (sa_cons (se_var 7) sa_nil)))) (aLen_cons (aLen_cons (aLen_cons (aLen_cons aLen_nil)))))) (sr_val (se_ix (hu_of hr) (sr_var 4) (sr_var 7)))) (sw_or (st_cmp op_lt r_lt (sr_val (se_ix (hu_of hr) (sr_var 4) (sr_var 7))) (sr_val se_int)) (sw_or1 (st_cmp (op_neD hr.units) r_ne (sr_val (se_call D_size (hr.mono (by decide)) (sa_cons (se_var 0) (sa_cons (se_var 1) (sa_cons (se_var 2) (sa_cons (se_op o_add r_add (sr_var 7) (sr_val se_int)) sa_nil)))) (aLen_cons (aLen_cons (aLen_cons (aLen_cons aLen_nil)))))) (sr_val se_int)))))) (ss_one (ss_ret se_bl)) ss_nil)
    (ss_cons (ss_set 9 (se_cmp (op_eqD hr.units) r_eq (sr_val (se_ix (hu_of hr) (sr_var 4) (sr_var 7))) (sr_val (se_call D__law_count (hr.mono (by decide)) (sa_cons (se_var 2) (sa_cons (se_var 7) sa_nil)) (aLen_cons (aLen_cons aLen_nil))))) nd)
    (ss_cons (ss_if (st_cmp (op_neD hr.units) r_ne (sr_val (se_callB call_reprF n_repr T.b_repr (sar_cons (sr_val (se_call D_keeps_all (hr.mono (by decide)) (sa_cons (se_var 0) (sa_cons (se_var 1) (sa_cons (se_var 2) (sa_cons (se_var 7) sa_nil)))) (aLen_cons (aLen_cons (aLen_cons (aLen_cons aLen_nil)))))) sar_nil))) (sr_val (se_callB call_reprF n_repr T.b_repr (sar_cons (sr_var 9) sar_nil)))) (ss_one (ss_ret se_bl)) ss_nil)
    (ss_cons (ss_set 6 (se_op o_add r_add (sr_var 6) (sr_ifExp (st_val (se_var 9)) (sr_val (se_lst sa_nil)) (sr_val (se_lst (sa_cons (se_var 7) sa_nil))))) nd)
    (ss_cons (ss_set 10 (se_ifExp (st_cmp (op_neD hr.units) r_ne (sr_val (se_ix (hu_of hr) (sr_var 4) (sr_var 7))) (sr_val se_int)) (se_of_n (sn_lc (own := [("j", 11)]) (g := (gName 11)) (ft := (ftN 11)) (si_range3 T.b_range (sar_cons (sr_val (se_op op_modN r_mod (sr_var 2) (sr_val se_int))) (sar_cons (sr_val (se_op o_add r_add (sr_var 7) (sr_val se_int))) (sar_cons (sr_val se_int) sar_nil))) fun t ht => pi_range3 rfl T.b_range ht) (blkOk_by (N := ["p", "d", "n", "l", "due", "r", "none", "k", "own", "is_kept", "shares", "j"]) (sc := defScope s_l_sizes_right) (by decide +kernel)) nd (tg_name 11) (fun _ _ _ _ _ => (pg_name (i := 11) nd rfl (by first | exact Or.inl rfl | exact Or.inr rfl))) (fun _ _ _ _ _ => (pts_oneS (st_cmp (o_in (hu65 hr)) r_in (sr_val (se_op o_add r_add (sr_var 11) (sr_val se_int))) (sr_val (se_call D__law_support (hr.mono (by decide)) (sa_cons (se_var 0) (sa_cons (se_var 3) (sa_cons (se_op o_add r_add (sr_var 7) (sr_val se_int)) sa_nil))) (aLen_cons (aLen_cons (aLen_cons aLen_nil)))))))) (fun _ _ _ _ _ => (se_var 11)) (by decide))) (se_lst sa_nil)) nd)
    (ss_one (ss_if (st_w (sw_or (st_cmp (op_neD hr.units) r_ne (sr_val (se_call D_shares_of (hr.mono (by decide)) (sa_cons (se_var 0) (sa_cons (se_var 1) (sa_cons (se_var 2) (sa_cons (se_var 7) sa_nil)))) (aLen_cons (aLen_cons (aLen_cons (aLen_cons aLen_nil)))))) (sr_val (se_callT call_tuple_of n_tuple T.b_tuple (sar_cons (sr_var 10) sar_nil)))) (sw_or1 (st_cmp (op_neD hr.units) r_ne (sr_val (se_call D_shares_of (hr.mono (by decide)) (sa_cons (se_var 0) (sa_cons (se_var 1) (sa_cons (se_var 2) (sa_cons (se_op o_add r_add (sr_var 7) (sr_val se_int)) sa_nil)))) (aLen_cons (aLen_cons (aLen_cons (aLen_cons aLen_nil)))))) (sr_val (se_tup sa_nil)))))) (ss_one (ss_ret se_bl)) ss_nil))))))))))
    (ss_one (ss_ret (se_and (se_cmp (op_eqD hr.units) r_eq (sr_val (se_call D_lost (hr.mono (by decide)) (sa_cons (se_var 0) (sa_cons (se_var 1) (sa_cons (se_var 2) sa_nil))) (aLen_cons (aLen_cons (aLen_cons aLen_nil))))) (sr_val (se_callT call_tuple_of n_tuple T.b_tuple (sar_cons (sr_var 6) sar_nil)))) (se_one (se_cmp (op_eqD hr.units) r_eq (sr_val (se_callB call_reprF n_repr T.b_repr (sar_cons (sr_val (se_call D_all_kept (hr.mono (by decide)) (sa_cons (se_var 0) (sa_cons (se_var 1) (sa_cons (se_var 2) sa_nil))) (aLen_cons (aLen_cons (aLen_cons aLen_nil))))) sar_nil))) (sr_val (se_callB call_reprF n_repr T.b_repr (sar_cons (sr_val (se_cmp (op_eqD hr.units) r_eq (sr_var 6) (sr_val (se_lst sa_nil)))) sar_nil))))))))))))
theorem d_l_sizes_right__law_sizes_right (T : Bl P w K mg) (D__law_sizes : Df P w K mg base "_law_sizes" ["p", "d", "n"] 7 m_l_sizes_v2) (D__law_length : Df P w K mg base "_law_length" ["p", "d"] 6 m_l_length) (D_sizes : Df P w K mg base "sizes" ["p", "d", "n"] 7 m_sizes) (D__law_support : Df P w K mg base "_law_support" ["p", "l", "whole"] 2 m_l_support) (D_pieces_of : Df P w K mg base "pieces_of" ["p", "d", "n", "k"] 8 m_pieces_of) (D__law_count : Df P w K mg base "_law_count" ["n", "k"] 1 m_l_count_v2) (D_size : Df P w K mg base "size" ["p", "d", "n", "r"] 7 m_size) (D_keeps_all : Df P w K mg base "keeps_all" ["p", "d", "n", "k"] 6 m_keeps_all) (D_shares_of : Df P w K mg base "shares_of" ["p", "d", "n", "r"] 8 m_shares_of) (D_lost : Df P w K mg base "lost" ["p", "d", "n"] 7 m_lost) (D_all_kept : Df P w K mg base "all_kept" ["p", "d", "n"] 8 m_all_kept) {f : Addr} {fd : FuncData} (FU : Fun K "_law_sizes_right" "_law_sizes_right" s_l_sizes_right f fd) (hm : mg "_law_sizes_right" = some (.ref f)) : Df P w K mg base "_law_sizes_right" ["p", "d", "n"] 9 m_l_sizes_right :=
  df_mk' FU sc_l_sizes_right (FU.binds fun _ _ _ _ _ _ us hl => match us, hl with | [_, _, _], _ => rfl) hm (by decide) (b_l_sizes_right T D__law_sizes D__law_length D_sizes D__law_support D_pieces_of D__law_count D_size D_keeps_all D_shares_of D_lost D_all_kept (fd := fd))
theorem sc_law : FnScope ["script", "source", "lap", "p", "d", "n", "told"] ["script"] (defScope s_law) := ⟨rfl, rfl, rfl, by decide +kernel, rfl, by decide +kernel, by decide +kernel⟩
theorem b_law (T : Bl P w K mg) (D__law_open_cells : Df P w K mg base "_law_open_cells" ["script"] 1 m_l_open_cells) (D__law_draw_field : Df P w K mg base "_law_draw_field" ["source"] 2 m_l_draw_field) (D__law_draw_worth : Df P w K mg base "_law_draw_worth" ["source", "p"] 3 m_l_draw_worth) (D__law_pick : Df P w K mg base "_law_pick" ["source", "most"] 1 m_l_pick) (D__law_sizes_right : Df P w K mg base "_law_sizes_right" ["p", "d", "n"] 9 m_l_sizes_right) (D_sizes : Df P w K mg base "sizes" ["p", "d", "n"] 7 m_sizes) (D_size : Df P w K mg base "size" ["p", "d", "n", "r"] 7 m_size) (D_shares_of : Df P w K mg base "shares_of" ["p", "d", "n", "r"] 8 m_shares_of) {f : Addr} {fd : FuncData} (cdv : Value) (A : Around) (outer : List Env) (s : Shared) (H : Hp) (E : XK) (hr : Room 9 (A.deeper (envOfC "law" (defScope s_law) s.heap.objs.size f cdv))) :
    SSs (cxOf CX0 P w K mg base ["script", "source", "lap", "p", "d", "n", "told"] "law" (defScope s_law) f cdv A outer s H E).nox (defBody s_law) F_law := by
  have nd := sc_law.nd
  exact (ss_cons (ss_set 1 (se_call D__law_open_cells (hr.mono (by decide)) (sa_cons (se_var 0) sa_nil) (aLen_cons aLen_nil)) nd)
    (ss_cons (ss_for rfl (si_range1 T.b_range (sar_cons (sr_val se_int) sar_nil)) (pg_name (i := 2) nd rfl (by first | exact Or.inl rfl | exact Or.inr rfl)) (tg_name 2) (ss_cons (ss_set 3 (se_call D__law_draw_field (hr.mono (by decide)) (sa_cons (se_var 1) sa_nil) (aLen_cons aLen_nil)) nd)
    (ss_cons (ss_par 4 5 (sa_cons (se_call D__law_draw_worth (hr.mono (by decide)) (sa_cons (se_var 1) (sa_cons (se_var 3) sa_nil)) (aLen_cons (aLen_cons aLen_nil))) (sa_cons (se_call D__law_pick (hr.mono (by decide)) (sa_cons (se_var 1) (sa_cons se_int sa_nil)) (aLen_cons (aLen_cons aLen_nil))) sa_nil)) nd)
    (ss_one (ss_if (st_not (st_val (se_call D__law_sizes_right (hr.mono (by decide)) (sa_cons (se_var 3) (sa_cons (se_var 4) (sa_cons (se_var 5) sa_nil))) (aLen_cons (aLen_cons (aLen_cons aLen_nil)))))) (ss_one (ss_ret se_bl)) ss_nil)))))
    (ss_cons (ss_setN 6 (sn_call D_sizes (hr.mono (by decide)) (sa_cons (se_var 3) (sa_cons (se_var 4) (sa_cons (se_var 5) sa_nil))) (aLen_cons (aLen_cons (aLen_cons aLen_nil)))) nd)
    (ss_cons (ss_expr (se_app 6 se_non))
    (ss_cons (ss_if (st_w (sw_or (st_cmp (op_neD hr.units) r_ne (sr_val (se_callB call_lenA n_len T.b_len (sar_cons (sr_val (se_call D_sizes (hr.mono (by decide)) (sa_cons (se_var 3) (sa_cons (se_var 4) (sa_cons (se_var 5) sa_nil))) (aLen_cons (aLen_cons (aLen_cons aLen_nil))))) sar_nil))) (sr_val (se_op op_sub r_sub (sr_val (se_callB call_lenA n_len T.b_len (sar_cons (sr_var 6) sar_nil))) (sr_val se_int)))) (sw_or (st_cmp (op_neD hr.units) r_ne (sr_val (se_call D_size (hr.mono (by decide)) (sa_cons (se_var 3) (sa_cons (se_var 4) (sa_cons (se_var 5) (sa_cons (se_op o_add r_add (sr_var 5) (sr_val se_int)) sa_nil)))) (aLen_cons (aLen_cons (aLen_cons (aLen_cons aLen_nil)))))) (sr_val se_int)) (sw_or1 (st_cmp (op_neD hr.units) r_ne (sr_val (se_call D_shares_of (hr.mono (by decide)) (sa_cons (se_var 3) (sa_cons (se_var 4) (sa_cons (se_var 5) (sa_cons (se_op o_add r_add (sr_var 5) (sr_val se_int)) sa_nil)))) (aLen_cons (aLen_cons (aLen_cons (aLen_cons aLen_nil)))))) (sr_val (se_tup sa_nil))))))) (ss_one (ss_ret se_bl)) ss_nil)
    (ss_one (ss_ret (se_or (se_cmp op_gt r_gt (sr_val (se_call D__law_pick (hr.mono (by decide)) (sa_cons (se_var 1) (sa_cons se_int sa_nil)) (aLen_cons (aLen_cons aLen_nil)))) (sr_val se_int)) (se_one (se_and (se_call D__law_sizes_right (hr.mono (by decide)) (sa_cons se_int (sa_cons se_int (sa_cons se_int sa_nil))) (aLen_cons (aLen_cons (aLen_cons aLen_nil)))) (se_one (se_cmp (op_eqD hr.units) r_eq (sr_val (se_ix (hu_of hr) (sr_val (se_call D_sizes (hr.mono (by decide)) (sa_cons se_int (sa_cons se_int (sa_cons se_int sa_nil))) (aLen_cons (aLen_cons (aLen_cons aLen_nil))))) (sr_val se_int))) (sr_val (se_tup (sa_cons se_int (sa_cons se_int sa_nil))))))))))))))))
end
theorem all_mk {l : PySem.W.OpenLaw} {w : World} {K : PySem.W.Frag} {h : Heap} {mg : Str → Option Value} {fa : Addr} (X : K.In h) (G : h.Ns mainGlobals mg) (hfa : mg "law" = some (.ref fa))
    {f0 : Addr} {oc0 kV0 dc0 pm0 cd0 ct0 : Value} {od0 an0 : Option Addr} {sl0 : Array (Option Value)}
    (a0 : PySem.W.nsIn K mainGlobals "digits" = some (some (.ref f0))) (l0 : K.lookup f0 = some ⟨oc0, od0, .func (PySem.W.fnOf "digits" "digits" (defArgs s_digits) (defBody s_digits) (defScope s_digits) .none kV0 dc0 pm0 an0 cd0 ct0), sl0⟩)
    (c0 : PySem.W.codeIn K cd0 "digits" = true) (k0 : PySem.W.keepIn K (.ref f0) = true)
    {f1 : Addr} {oc1 kV1 dc1 pm1 cd1 ct1 : Value} {od1 an1 : Option Addr} {sl1 : Array (Option Value)}
    (a1 : PySem.W.nsIn K mainGlobals "places" = some (some (.ref f1))) (l1 : K.lookup f1 = some ⟨oc1, od1, .func (PySem.W.fnOf "places" "places" (defArgs s_places) (defBody s_places) (defScope s_places) .none kV1 dc1 pm1 an1 cd1 ct1), sl1⟩)
    (c1 : PySem.W.codeIn K cd1 "places" = true) (k1 : PySem.W.keepIn K (.ref f1) = true)
    {f2 : Addr} {oc2 kV2 dc2 pm2 cd2 ct2 : Value} {od2 an2 : Option Addr} {sl2 : Array (Option Value)}
    (a2 : PySem.W.nsIn K mainGlobals "holds" = some (some (.ref f2))) (l2 : K.lookup f2 = some ⟨oc2, od2, .func (PySem.W.fnOf "holds" "holds" (defArgs s_holds) (defBody s_holds) (defScope s_holds) .none kV2 dc2 pm2 an2 cd2 ct2), sl2⟩)
    (c2 : PySem.W.codeIn K cd2 "holds" = true) (k2 : PySem.W.keepIn K (.ref f2) = true)
    {f3 : Addr} {oc3 kV3 dc3 pm3 cd3 ct3 : Value} {od3 an3 : Option Addr} {sl3 : Array (Option Value)}
    (a3 : PySem.W.nsIn K mainGlobals "next_over" = some (some (.ref f3))) (l3 : K.lookup f3 = some ⟨oc3, od3, .func (PySem.W.fnOf "next_over" "next_over" (defArgs s_next_over) (defBody s_next_over) (defScope s_next_over) .none kV3 dc3 pm3 an3 cd3 ct3), sl3⟩)
    (c3 : PySem.W.codeIn K cd3 "next_over" = true) (k3 : PySem.W.keepIn K (.ref f3) = true)
    {f4 : Addr} {oc4 kV4 dc4 pm4 cd4 ct4 : Value} {od4 an4 : Option Addr} {sl4 : Array (Option Value)}
    (a4 : PySem.W.nsIn K mainGlobals "count" = some (some (.ref f4))) (l4 : K.lookup f4 = some ⟨oc4, od4, .func (PySem.W.fnOf "count" "count" (defArgs s_count) (defBody s_count) (defScope s_count) .none kV4 dc4 pm4 an4 cd4 ct4), sl4⟩)
    (c4 : PySem.W.codeIn K cd4 "count" = true) (k4 : PySem.W.keepIn K (.ref f4) = true)
    {f5 : Addr} {oc5 kV5 dc5 pm5 cd5 ct5 : Value} {od5 an5 : Option Addr} {sl5 : Array (Option Value)}
    (a5 : PySem.W.nsIn K mainGlobals "in_form" = some (some (.ref f5))) (l5 : K.lookup f5 = some ⟨oc5, od5, .func (PySem.W.fnOf "in_form" "in_form" (defArgs s_in_form) (defBody s_in_form) (defScope s_in_form) .none kV5 dc5 pm5 an5 cd5 ct5), sl5⟩)
    (c5 : PySem.W.codeIn K cd5 "in_form" = true) (k5 : PySem.W.keepIn K (.ref f5) = true)
    {f6 : Addr} {oc6 kV6 dc6 pm6 cd6 ct6 : Value} {od6 an6 : Option Addr} {sl6 : Array (Option Value)}
    (a6 : PySem.W.nsIn K mainGlobals "number" = some (some (.ref f6))) (l6 : K.lookup f6 = some ⟨oc6, od6, .func (PySem.W.fnOf "number" "number" (defArgs s_number) (defBody s_number) (defScope s_number) .none kV6 dc6 pm6 an6 cd6 ct6), sl6⟩)
    (c6 : PySem.W.codeIn K cd6 "number" = true) (k6 : PySem.W.keepIn K (.ref f6) = true)
    {f7 : Addr} {oc7 kV7 dc7 pm7 cd7 ct7 : Value} {od7 an7 : Option Addr} {sl7 : Array (Option Value)}
    (a7 : PySem.W.nsIn K mainGlobals "plus" = some (some (.ref f7))) (l7 : K.lookup f7 = some ⟨oc7, od7, .func (PySem.W.fnOf "plus" "plus" (defArgs s_plus) (defBody s_plus) (defScope s_plus) .none kV7 dc7 pm7 an7 cd7 ct7), sl7⟩)
    (c7 : PySem.W.codeIn K cd7 "plus" = true) (k7 : PySem.W.keepIn K (.ref f7) = true)
    {f8 : Addr} {oc8 kV8 dc8 pm8 cd8 ct8 : Value} {od8 an8 : Option Addr} {sl8 : Array (Option Value)}
    (a8 : PySem.W.nsIn K mainGlobals "times" = some (some (.ref f8))) (l8 : K.lookup f8 = some ⟨oc8, od8, .func (PySem.W.fnOf "times" "times" (defArgs s_times) (defBody s_times) (defScope s_times) .none kV8 dc8 pm8 an8 cd8 ct8), sl8⟩)
    (c8 : PySem.W.codeIn K cd8 "times" = true) (k8 : PySem.W.keepIn K (.ref f8) = true)
    {f9 : Addr} {oc9 kV9 dc9 pm9 cd9 ct9 : Value} {od9 an9 : Option Addr} {sl9 : Array (Option Value)}
    (a9 : PySem.W.nsIn K mainGlobals "minus" = some (some (.ref f9))) (l9 : K.lookup f9 = some ⟨oc9, od9, .func (PySem.W.fnOf "minus" "minus" (defArgs s_minus) (defBody s_minus) (defScope s_minus) .none kV9 dc9 pm9 an9 cd9 ct9), sl9⟩)
    (c9 : PySem.W.codeIn K cd9 "minus" = true) (k9 : PySem.W.keepIn K (.ref f9) = true)
    {f10 : Addr} {oc10 kV10 dc10 pm10 cd10 ct10 : Value} {od10 an10 : Option Addr} {sl10 : Array (Option Value)}
    (a10 : PySem.W.nsIn K mainGlobals "worth_row" = some (some (.ref f10))) (l10 : K.lookup f10 = some ⟨oc10, od10, .func (PySem.W.fnOf "worth_row" "worth_row" (defArgs s_worth_row) (defBody s_worth_row) (defScope s_worth_row) .none kV10 dc10 pm10 an10 cd10 ct10), sl10⟩)
    (c10 : PySem.W.codeIn K cd10 "worth_row" = true) (k10 : PySem.W.keepIn K (.ref f10) = true)
    {f11 : Addr} {oc11 kV11 dc11 pm11 cd11 ct11 : Value} {od11 an11 : Option Addr} {sl11 : Array (Option Value)}
    (a11 : PySem.W.nsIn K mainGlobals "length" = some (some (.ref f11))) (l11 : K.lookup f11 = some ⟨oc11, od11, .func (PySem.W.fnOf "length" "length" (defArgs s_length) (defBody s_length) (defScope s_length) .none kV11 dc11 pm11 an11 cd11 ct11), sl11⟩)
    (c11 : PySem.W.codeIn K cd11 "length" = true) (k11 : PySem.W.keepIn K (.ref f11) = true)
    {f12 : Addr} {oc12 kV12 dc12 pm12 cd12 ct12 : Value} {od12 an12 : Option Addr} {sl12 : Array (Option Value)}
    (a12 : PySem.W.nsIn K mainGlobals "all_sizes" = some (some (.ref f12))) (l12 : K.lookup f12 = some ⟨oc12, od12, .func (PySem.W.fnOf "all_sizes" "all_sizes" (defArgs s_all_sizes) (defBody s_all_sizes) (defScope s_all_sizes) .none kV12 dc12 pm12 an12 cd12 ct12), sl12⟩)
    (c12 : PySem.W.codeIn K cd12 "all_sizes" = true) (k12 : PySem.W.keepIn K (.ref f12) = true)
    {f13 : Addr} {oc13 kV13 dc13 pm13 cd13 ct13 : Value} {od13 an13 : Option Addr} {sl13 : Array (Option Value)}
    (a13 : PySem.W.nsIn K mainGlobals "size" = some (some (.ref f13))) (l13 : K.lookup f13 = some ⟨oc13, od13, .func (PySem.W.fnOf "size" "size" (defArgs s_size) (defBody s_size) (defScope s_size) .none kV13 dc13 pm13 an13 cd13 ct13), sl13⟩)
    (c13 : PySem.W.codeIn K cd13 "size" = true) (k13 : PySem.W.keepIn K (.ref f13) = true)
    {f14 : Addr} {oc14 kV14 dc14 pm14 cd14 ct14 : Value} {od14 an14 : Option Addr} {sl14 : Array (Option Value)}
    (a14 : PySem.W.nsIn K mainGlobals "sizes" = some (some (.ref f14))) (l14 : K.lookup f14 = some ⟨oc14, od14, .func (PySem.W.fnOf "sizes" "sizes" (defArgs s_sizes) (defBody s_sizes) (defScope s_sizes) .none kV14 dc14 pm14 an14 cd14 ct14), sl14⟩)
    (c14 : PySem.W.codeIn K cd14 "sizes" = true) (k14 : PySem.W.keepIn K (.ref f14) = true)
    {f15 : Addr} {oc15 kV15 dc15 pm15 cd15 ct15 : Value} {od15 an15 : Option Addr} {sl15 : Array (Option Value)}
    (a15 : PySem.W.nsIn K mainGlobals "pieces_of" = some (some (.ref f15))) (l15 : K.lookup f15 = some ⟨oc15, od15, .func (PySem.W.fnOf "pieces_of" "pieces_of" (defArgs s_pieces_of) (defBody s_pieces_of) (defScope s_pieces_of) .none kV15 dc15 pm15 an15 cd15 ct15), sl15⟩)
    (c15 : PySem.W.codeIn K cd15 "pieces_of" = true) (k15 : PySem.W.keepIn K (.ref f15) = true)
    {f16 : Addr} {oc16 kV16 dc16 pm16 cd16 ct16 : Value} {od16 an16 : Option Addr} {sl16 : Array (Option Value)}
    (a16 : PySem.W.nsIn K mainGlobals "keeps_all" = some (some (.ref f16))) (l16 : K.lookup f16 = some ⟨oc16, od16, .func (PySem.W.fnOf "keeps_all" "keeps_all" (defArgs s_keeps_all) (defBody s_keeps_all) (defScope s_keeps_all) .none kV16 dc16 pm16 an16 cd16 ct16), sl16⟩)
    (c16 : PySem.W.codeIn K cd16 "keeps_all" = true) (k16 : PySem.W.keepIn K (.ref f16) = true)
    {f17 : Addr} {oc17 kV17 dc17 pm17 cd17 ct17 : Value} {od17 an17 : Option Addr} {sl17 : Array (Option Value)}
    (a17 : PySem.W.nsIn K mainGlobals "lost" = some (some (.ref f17))) (l17 : K.lookup f17 = some ⟨oc17, od17, .func (PySem.W.fnOf "lost" "lost" (defArgs s_lost) (defBody s_lost) (defScope s_lost) .none kV17 dc17 pm17 an17 cd17 ct17), sl17⟩)
    (c17 : PySem.W.codeIn K cd17 "lost" = true) (k17 : PySem.W.keepIn K (.ref f17) = true)
    {f18 : Addr} {oc18 kV18 dc18 pm18 cd18 ct18 : Value} {od18 an18 : Option Addr} {sl18 : Array (Option Value)}
    (a18 : PySem.W.nsIn K mainGlobals "all_kept" = some (some (.ref f18))) (l18 : K.lookup f18 = some ⟨oc18, od18, .func (PySem.W.fnOf "all_kept" "all_kept" (defArgs s_all_kept) (defBody s_all_kept) (defScope s_all_kept) .none kV18 dc18 pm18 an18 cd18 ct18), sl18⟩)
    (c18 : PySem.W.codeIn K cd18 "all_kept" = true) (k18 : PySem.W.keepIn K (.ref f18) = true)
    {f19 : Addr} {oc19 kV19 dc19 pm19 cd19 ct19 : Value} {od19 an19 : Option Addr} {sl19 : Array (Option Value)}
    (a19 : PySem.W.nsIn K mainGlobals "shares_of" = some (some (.ref f19))) (l19 : K.lookup f19 = some ⟨oc19, od19, .func (PySem.W.fnOf "shares_of" "shares_of" (defArgs s_shares_of) (defBody s_shares_of) (defScope s_shares_of) .none kV19 dc19 pm19 an19 cd19 ct19), sl19⟩)
    (c19 : PySem.W.codeIn K cd19 "shares_of" = true) (k19 : PySem.W.keepIn K (.ref f19) = true)
    {f20 : Addr} {oc20 kV20 dc20 pm20 cd20 ct20 : Value} {od20 an20 : Option Addr} {sl20 : Array (Option Value)}
    (a20 : PySem.W.nsIn K mainGlobals "_law_open_cells" = some (some (.ref f20))) (l20 : K.lookup f20 = some ⟨oc20, od20, .func (PySem.W.fnOf "_law_open_cells" "_law_open_cells" (defArgs s_l_open_cells) (defBody s_l_open_cells) (defScope s_l_open_cells) .none kV20 dc20 pm20 an20 cd20 ct20), sl20⟩)
    (c20 : PySem.W.codeIn K cd20 "_law_open_cells" = true) (k20 : PySem.W.keepIn K (.ref f20) = true)
    {f21 : Addr} {oc21 kV21 dc21 pm21 cd21 ct21 : Value} {od21 an21 : Option Addr} {sl21 : Array (Option Value)}
    (a21 : PySem.W.nsIn K mainGlobals "_law_pick" = some (some (.ref f21))) (l21 : K.lookup f21 = some ⟨oc21, od21, .func (PySem.W.fnOf "_law_pick" "_law_pick" (defArgs s_l_pick) (defBody s_l_pick) (defScope s_l_pick) .none kV21 dc21 pm21 an21 cd21 ct21), sl21⟩)
    (c21 : PySem.W.codeIn K cd21 "_law_pick" = true) (k21 : PySem.W.keepIn K (.ref f21) = true)
    {f22 : Addr} {oc22 kV22 dc22 pm22 cd22 ct22 : Value} {od22 an22 : Option Addr} {sl22 : Array (Option Value)}
    (a22 : PySem.W.nsIn K mainGlobals "_law_common" = some (some (.ref f22))) (l22 : K.lookup f22 = some ⟨oc22, od22, .func (PySem.W.fnOf "_law_common" "_law_common" (defArgs s_l_common) (defBody s_l_common) (defScope s_l_common) .none kV22 dc22 pm22 an22 cd22 ct22), sl22⟩)
    (c22 : PySem.W.codeIn K cd22 "_law_common" = true) (k22 : PySem.W.keepIn K (.ref f22) = true)
    {f23 : Addr} {oc23 kV23 dc23 pm23 cd23 ct23 : Value} {od23 an23 : Option Addr} {sl23 : Array (Option Value)}
    (a23 : PySem.W.nsIn K mainGlobals "_law_fraction" = some (some (.ref f23))) (l23 : K.lookup f23 = some ⟨oc23, od23, .func (PySem.W.fnOf "_law_fraction" "_law_fraction" (defArgs s_l_fraction) (defBody s_l_fraction) (defScope s_l_fraction) .none kV23 dc23 pm23 an23 cd23 ct23), sl23⟩)
    (c23 : PySem.W.codeIn K cd23 "_law_fraction" = true) (k23 : PySem.W.keepIn K (.ref f23) = true)
    {f24 : Addr} {oc24 kV24 dc24 pm24 cd24 ct24 : Value} {od24 an24 : Option Addr} {sl24 : Array (Option Value)}
    (a24 : PySem.W.nsIn K mainGlobals "_law_number" = some (some (.ref f24))) (l24 : K.lookup f24 = some ⟨oc24, od24, .func (PySem.W.fnOf "_law_number" "_law_number" (defArgs s_l_number) (defBody s_l_number) (defScope s_l_number) .none kV24 dc24 pm24 an24 cd24 ct24), sl24⟩)
    (c24 : PySem.W.codeIn K cd24 "_law_number" = true) (k24 : PySem.W.keepIn K (.ref f24) = true)
    {f25 : Addr} {oc25 kV25 dc25 pm25 cd25 ct25 : Value} {od25 an25 : Option Addr} {sl25 : Array (Option Value)}
    (a25 : PySem.W.nsIn K mainGlobals "_law_plus" = some (some (.ref f25))) (l25 : K.lookup f25 = some ⟨oc25, od25, .func (PySem.W.fnOf "_law_plus" "_law_plus" (defArgs s_l_plus) (defBody s_l_plus) (defScope s_l_plus) .none kV25 dc25 pm25 an25 cd25 ct25), sl25⟩)
    (c25 : PySem.W.codeIn K cd25 "_law_plus" = true) (k25 : PySem.W.keepIn K (.ref f25) = true)
    {f26 : Addr} {oc26 kV26 dc26 pm26 cd26 ct26 : Value} {od26 an26 : Option Addr} {sl26 : Array (Option Value)}
    (a26 : PySem.W.nsIn K mainGlobals "_law_times" = some (some (.ref f26))) (l26 : K.lookup f26 = some ⟨oc26, od26, .func (PySem.W.fnOf "_law_times" "_law_times" (defArgs s_l_times) (defBody s_l_times) (defScope s_l_times) .none kV26 dc26 pm26 an26 cd26 ct26), sl26⟩)
    (c26 : PySem.W.codeIn K cd26 "_law_times" = true) (k26 : PySem.W.keepIn K (.ref f26) = true)
    {f27 : Addr} {oc27 kV27 dc27 pm27 cd27 ct27 : Value} {od27 an27 : Option Addr} {sl27 : Array (Option Value)}
    (a27 : PySem.W.nsIn K mainGlobals "_law_minus" = some (some (.ref f27))) (l27 : K.lookup f27 = some ⟨oc27, od27, .func (PySem.W.fnOf "_law_minus" "_law_minus" (defArgs s_l_minus) (defBody s_l_minus) (defScope s_l_minus) .none kV27 dc27 pm27 an27 cd27 ct27), sl27⟩)
    (c27 : PySem.W.codeIn K cd27 "_law_minus" = true) (k27 : PySem.W.keepIn K (.ref f27) = true)
    {f28 : Addr} {oc28 kV28 dc28 pm28 cd28 ct28 : Value} {od28 an28 : Option Addr} {sl28 : Array (Option Value)}
    (a28 : PySem.W.nsIn K mainGlobals "_law_draw_field" = some (some (.ref f28))) (l28 : K.lookup f28 = some ⟨oc28, od28, .func (PySem.W.fnOf "_law_draw_field" "_law_draw_field" (defArgs s_l_draw_field) (defBody s_l_draw_field) (defScope s_l_draw_field) .none kV28 dc28 pm28 an28 cd28 ct28), sl28⟩)
    (c28 : PySem.W.codeIn K cd28 "_law_draw_field" = true) (k28 : PySem.W.keepIn K (.ref f28) = true)
    {f29 : Addr} {oc29 kV29 dc29 pm29 cd29 ct29 : Value} {od29 an29 : Option Addr} {sl29 : Array (Option Value)}
    (a29 : PySem.W.nsIn K mainGlobals "_law_draw_worth" = some (some (.ref f29))) (l29 : K.lookup f29 = some ⟨oc29, od29, .func (PySem.W.fnOf "_law_draw_worth" "_law_draw_worth" (defArgs s_l_draw_worth) (defBody s_l_draw_worth) (defScope s_l_draw_worth) .none kV29 dc29 pm29 an29 cd29 ct29), sl29⟩)
    (c29 : PySem.W.codeIn K cd29 "_law_draw_worth" = true) (k29 : PySem.W.keepIn K (.ref f29) = true)
    {f30 : Addr} {oc30 kV30 dc30 pm30 cd30 ct30 : Value} {od30 an30 : Option Addr} {sl30 : Array (Option Value)}
    (a30 : PySem.W.nsIn K mainGlobals "_law_worth_row" = some (some (.ref f30))) (l30 : K.lookup f30 = some ⟨oc30, od30, .func (PySem.W.fnOf "_law_worth_row" "_law_worth_row" (defArgs s_l_worth_row) (defBody s_l_worth_row) (defScope s_l_worth_row) .none kV30 dc30 pm30 an30 cd30 ct30), sl30⟩)
    (c30 : PySem.W.codeIn K cd30 "_law_worth_row" = true) (k30 : PySem.W.keepIn K (.ref f30) = true)
    {f31 : Addr} {oc31 kV31 dc31 pm31 cd31 ct31 : Value} {od31 an31 : Option Addr} {sl31 : Array (Option Value)}
    (a31 : PySem.W.nsIn K mainGlobals "_law_length" = some (some (.ref f31))) (l31 : K.lookup f31 = some ⟨oc31, od31, .func (PySem.W.fnOf "_law_length" "_law_length" (defArgs s_l_length) (defBody s_l_length) (defScope s_l_length) .none kV31 dc31 pm31 an31 cd31 ct31), sl31⟩)
    (c31 : PySem.W.codeIn K cd31 "_law_length" = true) (k31 : PySem.W.keepIn K (.ref f31) = true)
    {f32 : Addr} {oc32 kV32 dc32 pm32 cd32 ct32 : Value} {od32 an32 : Option Addr} {sl32 : Array (Option Value)}
    (a32 : PySem.W.nsIn K mainGlobals "_law_count" = some (some (.ref f32))) (l32 : K.lookup f32 = some ⟨oc32, od32, .func (PySem.W.fnOf "_law_count" "_law_count" (defArgs s_l_count_v2) (defBody s_l_count_v2) (defScope s_l_count_v2) .none kV32 dc32 pm32 an32 cd32 ct32), sl32⟩)
    (c32 : PySem.W.codeIn K cd32 "_law_count" = true) (k32 : PySem.W.keepIn K (.ref f32) = true)
    {f33 : Addr} {oc33 kV33 dc33 pm33 cd33 ct33 : Value} {od33 an33 : Option Addr} {sl33 : Array (Option Value)}
    (a33 : PySem.W.nsIn K mainGlobals "_law_digits" = some (some (.ref f33))) (l33 : K.lookup f33 = some ⟨oc33, od33, .func (PySem.W.fnOf "_law_digits" "_law_digits" (defArgs s_l_digits) (defBody s_l_digits) (defScope s_l_digits) .none kV33 dc33 pm33 an33 cd33 ct33), sl33⟩)
    (c33 : PySem.W.codeIn K cd33 "_law_digits" = true) (k33 : PySem.W.keepIn K (.ref f33) = true)
    {f34 : Addr} {oc34 kV34 dc34 pm34 cd34 ct34 : Value} {od34 an34 : Option Addr} {sl34 : Array (Option Value)}
    (a34 : PySem.W.nsIn K mainGlobals "_law_support" = some (some (.ref f34))) (l34 : K.lookup f34 = some ⟨oc34, od34, .func (PySem.W.fnOf "_law_support" "_law_support" (defArgs s_l_support) (defBody s_l_support) (defScope s_l_support) .none kV34 dc34 pm34 an34 cd34 ct34), sl34⟩)
    (c34 : PySem.W.codeIn K cd34 "_law_support" = true) (k34 : PySem.W.keepIn K (.ref f34) = true)
    {f35 : Addr} {oc35 kV35 dc35 pm35 cd35 ct35 : Value} {od35 an35 : Option Addr} {sl35 : Array (Option Value)}
    (a35 : PySem.W.nsIn K mainGlobals "_law_sizes" = some (some (.ref f35))) (l35 : K.lookup f35 = some ⟨oc35, od35, .func (PySem.W.fnOf "_law_sizes" "_law_sizes" (defArgs s_l_sizes_v2) (defBody s_l_sizes_v2) (defScope s_l_sizes_v2) .none kV35 dc35 pm35 an35 cd35 ct35), sl35⟩)
    (c35 : PySem.W.codeIn K cd35 "_law_sizes" = true) (k35 : PySem.W.keepIn K (.ref f35) = true)
    {f36 : Addr} {oc36 kV36 dc36 pm36 cd36 ct36 : Value} {od36 an36 : Option Addr} {sl36 : Array (Option Value)}
    (a36 : PySem.W.nsIn K mainGlobals "_law_sizes_right" = some (some (.ref f36))) (l36 : K.lookup f36 = some ⟨oc36, od36, .func (PySem.W.fnOf "_law_sizes_right" "_law_sizes_right" (defArgs s_l_sizes_right) (defBody s_l_sizes_right) (defScope s_l_sizes_right) .none kV36 dc36 pm36 an36 cd36 ct36), sl36⟩)
    (c36 : PySem.W.codeIn K cd36 "_law_sizes_right" = true) (k36 : PySem.W.keepIn K (.ref f36) = true)
    {f37 : Addr} {oc37 kV37 dc37 pm37 cd37 ct37 : Value} {od37 an37 : Option Addr} {sl37 : Array (Option Value)}
    (a37 : PySem.W.nsIn K mainGlobals "law" = some (some (.ref f37))) (l37 : K.lookup f37 = some ⟨oc37, od37, .func (PySem.W.fnOf "law" "law" (defArgs s_law) (defBody s_law) (defScope s_law) .none kV37 dc37 pm37 an37 cd37 ct37), sl37⟩)
    (c37 : PySem.W.codeIn K cd37 "law" = true) (k37 : PySem.W.keepIn K (.ref f37) = true)
    (z_abs : PySem.W.nsIn K mainGlobals "abs" = some none)
    (z_dict : PySem.W.nsIn K mainGlobals "dict" = some none)
    (z_enumerate : PySem.W.nsIn K mainGlobals "enumerate" = some none)
    (z_int : PySem.W.nsIn K mainGlobals "int" = some none)
    (z_len : PySem.W.nsIn K mainGlobals "len" = some none)
    (z_max : PySem.W.nsIn K mainGlobals "max" = some none)
    (z_range : PySem.W.nsIn K mainGlobals "range" = some none)
    (z_repr : PySem.W.nsIn K mainGlobals "repr" = some none)
    (z_reversed : PySem.W.nsIn K mainGlobals "reversed" = some none)
    (z_sorted : PySem.W.nsIn K mainGlobals "sorted" = some none)
    (z_sum : PySem.W.nsIn K mainGlobals "sum" = some none)
    (z_tuple : PySem.W.nsIn K mainGlobals "tuple" = some none)
    (z_zip : PySem.W.nsIn K mainGlobals "zip" = some none)
    (g_comb : PySem.W.nsIn K mainGlobals "comb" = some (some (.builtin "math.comb")))
    (g_gcd : PySem.W.nsIn K mainGlobals "gcd" = some (some (.builtin "math.gcd")))
    {d_LENGTHS : Addr} (t_LENGTHS : PySem.W.nsIn K mainGlobals "LENGTHS" = some (some (.ref d_LENGTHS))) (q_LENGTHS : KTab l.prog w K d_LENGTHS tab_LENGTHS)
    : ∃ fd : FuncData, (∀ (s : Shared) (v : Value), BindsTo s fd ⟨[v], []⟩ [("script", v)]) ∧ ∀ base : Heap, K.In base → base.Ns mainGlobals mg → FnOk l.prog w K mg base CX0 10 fa fd ["script"] (spM K m_law 1) := by
  have T : Bl l.prog w K mg := ⟨PySem.W.mg_none_of X G z_abs, PySem.W.mg_none_of X G z_dict, PySem.W.mg_none_of X G z_enumerate, PySem.W.mg_none_of X G z_int, PySem.W.mg_none_of X G z_len, PySem.W.mg_none_of X G z_max, PySem.W.mg_none_of X G z_range, PySem.W.mg_none_of X G z_repr, PySem.W.mg_none_of X G z_reversed, PySem.W.mg_none_of X G z_sorted, PySem.W.mg_none_of X G z_sum, PySem.W.mg_none_of X G z_tuple, PySem.W.mg_none_of X G z_zip, PySem.W.mg_of X G g_comb, PySem.W.mg_of X G g_gcd, ⟨_, PySem.W.mg_of X G t_LENGTHS, q_LENGTHS⟩⟩
  obtain ⟨f_digits, fd_digits, U_digits, e_digits⟩ := (here' (st := s_digits) a0 l0 c0 k0).fn X G
  obtain ⟨f_places, fd_places, U_places, e_places⟩ := (here' (st := s_places) a1 l1 c1 k1).fn X G
  obtain ⟨f_holds, fd_holds, U_holds, e_holds⟩ := (here' (st := s_holds) a2 l2 c2 k2).fn X G
  obtain ⟨f_next_over, fd_next_over, U_next_over, e_next_over⟩ := (here' (st := s_next_over) a3 l3 c3 k3).fn X G
  obtain ⟨f_count, fd_count, U_count, e_count⟩ := (here' (st := s_count) a4 l4 c4 k4).fn X G
  obtain ⟨f_in_form, fd_in_form, U_in_form, e_in_form⟩ := (here' (st := s_in_form) a5 l5 c5 k5).fn X G
  obtain ⟨f_number, fd_number, U_number, e_number⟩ := (here' (st := s_number) a6 l6 c6 k6).fn X G
  obtain ⟨f_plus, fd_plus, U_plus, e_plus⟩ := (here' (st := s_plus) a7 l7 c7 k7).fn X G
  obtain ⟨f_times, fd_times, U_times, e_times⟩ := (here' (st := s_times) a8 l8 c8 k8).fn X G
  obtain ⟨f_minus, fd_minus, U_minus, e_minus⟩ := (here' (st := s_minus) a9 l9 c9 k9).fn X G
  obtain ⟨f_worth_row, fd_worth_row, U_worth_row, e_worth_row⟩ := (here' (st := s_worth_row) a10 l10 c10 k10).fn X G
  obtain ⟨f_length, fd_length, U_length, e_length⟩ := (here' (st := s_length) a11 l11 c11 k11).fn X G
  obtain ⟨f_all_sizes, fd_all_sizes, U_all_sizes, e_all_sizes⟩ := (here' (st := s_all_sizes) a12 l12 c12 k12).fn X G
  obtain ⟨f_size, fd_size, U_size, e_size⟩ := (here' (st := s_size) a13 l13 c13 k13).fn X G
  obtain ⟨f_sizes, fd_sizes, U_sizes, e_sizes⟩ := (here' (st := s_sizes) a14 l14 c14 k14).fn X G
  obtain ⟨f_pieces_of, fd_pieces_of, U_pieces_of, e_pieces_of⟩ := (here' (st := s_pieces_of) a15 l15 c15 k15).fn X G
  obtain ⟨f_keeps_all, fd_keeps_all, U_keeps_all, e_keeps_all⟩ := (here' (st := s_keeps_all) a16 l16 c16 k16).fn X G
  obtain ⟨f_lost, fd_lost, U_lost, e_lost⟩ := (here' (st := s_lost) a17 l17 c17 k17).fn X G
  obtain ⟨f_all_kept, fd_all_kept, U_all_kept, e_all_kept⟩ := (here' (st := s_all_kept) a18 l18 c18 k18).fn X G
  obtain ⟨f_shares_of, fd_shares_of, U_shares_of, e_shares_of⟩ := (here' (st := s_shares_of) a19 l19 c19 k19).fn X G
  obtain ⟨f__law_open_cells, fd__law_open_cells, U__law_open_cells, e__law_open_cells⟩ := (here' (st := s_l_open_cells) a20 l20 c20 k20).fn X G
  obtain ⟨f__law_pick, fd__law_pick, U__law_pick, e__law_pick⟩ := (here' (st := s_l_pick) a21 l21 c21 k21).fn X G
  obtain ⟨f__law_common, fd__law_common, U__law_common, e__law_common⟩ := (here' (st := s_l_common) a22 l22 c22 k22).fn X G
  obtain ⟨f__law_fraction, fd__law_fraction, U__law_fraction, e__law_fraction⟩ := (here' (st := s_l_fraction) a23 l23 c23 k23).fn X G
  obtain ⟨f__law_number, fd__law_number, U__law_number, e__law_number⟩ := (here' (st := s_l_number) a24 l24 c24 k24).fn X G
  obtain ⟨f__law_plus, fd__law_plus, U__law_plus, e__law_plus⟩ := (here' (st := s_l_plus) a25 l25 c25 k25).fn X G
  obtain ⟨f__law_times, fd__law_times, U__law_times, e__law_times⟩ := (here' (st := s_l_times) a26 l26 c26 k26).fn X G
  obtain ⟨f__law_minus, fd__law_minus, U__law_minus, e__law_minus⟩ := (here' (st := s_l_minus) a27 l27 c27 k27).fn X G
  obtain ⟨f__law_draw_field, fd__law_draw_field, U__law_draw_field, e__law_draw_field⟩ := (here' (st := s_l_draw_field) a28 l28 c28 k28).fn X G
  obtain ⟨f__law_draw_worth, fd__law_draw_worth, U__law_draw_worth, e__law_draw_worth⟩ := (here' (st := s_l_draw_worth) a29 l29 c29 k29).fn X G
  obtain ⟨f__law_worth_row, fd__law_worth_row, U__law_worth_row, e__law_worth_row⟩ := (here' (st := s_l_worth_row) a30 l30 c30 k30).fn X G
  obtain ⟨f__law_length, fd__law_length, U__law_length, e__law_length⟩ := (here' (st := s_l_length) a31 l31 c31 k31).fn X G
  obtain ⟨f__law_count, fd__law_count, U__law_count, e__law_count⟩ := (here' (st := s_l_count_v2) a32 l32 c32 k32).fn X G
  obtain ⟨f__law_digits, fd__law_digits, U__law_digits, e__law_digits⟩ := (here' (st := s_l_digits) a33 l33 c33 k33).fn X G
  obtain ⟨f__law_support, fd__law_support, U__law_support, e__law_support⟩ := (here' (st := s_l_support) a34 l34 c34 k34).fn X G
  obtain ⟨f__law_sizes, fd__law_sizes, U__law_sizes, e__law_sizes⟩ := (here' (st := s_l_sizes_v2) a35 l35 c35 k35).fn X G
  obtain ⟨f__law_sizes_right, fd__law_sizes_right, U__law_sizes_right, e__law_sizes_right⟩ := (here' (st := s_l_sizes_right) a36 l36 c36 k36).fn X G
  have e := hfa.symm.trans (PySem.W.mg_of X G a37)
  cases e
  refine ⟨PySem.W.fnOf "law" "law" (defArgs s_law) (defBody s_law) (defScope s_law) .none kV37 dc37 pm37 an37 cd37 ct37, fun s v => .of_eq rfl, fun base _ _ => ?_⟩
  have D_digits : Df l.prog w K mg base "digits" ["p", "l", "number"] 1 m_digits := d_digits_digits T  U_digits e_digits
  have D_places : Df l.prog w K mg base "places" ["p", "l", "many"] 1 m_places := d_places_places T  U_places e_places
  have D_holds : Df l.prog w K mg base "holds" ["p", "l", "k", "r"] 2 m_holds := d_holds_holds T D_digits D_places U_holds e_holds
  have D_next_over : Df l.prog w K mg base "next_over" ["p", "l", "k"] 1 m_next_over := d_next_over_next_over T  U_next_over e_next_over
  have D_count : Df l.prog w K mg base "count" ["n", "k"] 1 m_count := d_count_count T  U_count e_count
  have D_in_form : Df l.prog w K mg base "in_form" ["u", "e"] 1 m_in_form := d_in_form_in_form T  U_in_form e_in_form
  have D_number : Df l.prog w K mg base "number" ["p", "n"] 1 m_number := d_number_number T  U_number e_number
  have D_plus : Df l.prog w K mg base "plus" ["p", "x", "y"] 2 m_plus := d_plus_plus T D_in_form U_plus e_plus
  have D_times : Df l.prog w K mg base "times" ["p", "x", "y"] 2 m_times := d_times_times T D_in_form U_times e_times
  have D_minus : Df l.prog w K mg base "minus" ["p", "x", "y"] 3 m_minus := d_minus_minus T D_plus D_times D_number U_minus e_minus
  have D_worth_row : Df l.prog w K mg base "worth_row" ["p", "d", "m"] 4 m_worth_row := d_worth_row_worth_row T D_number D_minus D_times U_worth_row e_worth_row
  have D_length : Df l.prog w K mg base "length" ["p", "d"] 5 m_length := d_length_length T D_worth_row U_length e_length
  have D_all_sizes : Df l.prog w K mg base "all_sizes" ["p", "d", "n"] 6 m_all_sizes := d_all_sizes_all_sizes T D_length D_count D_holds U_all_sizes e_all_sizes
  have D_size : Df l.prog w K mg base "size" ["p", "d", "n", "r"] 7 m_size := d_size_size T D_all_sizes U_size e_size
  have D_sizes : Df l.prog w K mg base "sizes" ["p", "d", "n"] 7 m_sizes := d_sizes_sizes T D_all_sizes U_sizes e_sizes
  have D_pieces_of : Df l.prog w K mg base "pieces_of" ["p", "d", "n", "k"] 8 m_pieces_of := d_pieces_of_pieces_of T D_length D_sizes D_holds U_pieces_of e_pieces_of
  have D_keeps_all : Df l.prog w K mg base "keeps_all" ["p", "d", "n", "k"] 6 m_keeps_all := d_keeps_all_keeps_all T D_next_over D_length U_keeps_all e_keeps_all
  have D_lost : Df l.prog w K mg base "lost" ["p", "d", "n"] 7 m_lost := d_lost_lost T D_keeps_all U_lost e_lost
  have D_all_kept : Df l.prog w K mg base "all_kept" ["p", "d", "n"] 8 m_all_kept := d_all_kept_all_kept T D_lost U_all_kept e_all_kept
  have D_shares_of : Df l.prog w K mg base "shares_of" ["p", "d", "n", "r"] 8 m_shares_of := d_shares_of_shares_of T D_size D_length D_holds U_shares_of e_shares_of
  have D__law_open_cells : Df l.prog w K mg base "_law_open_cells" ["script"] 1 m_l_open_cells := d_l_open_cells__law_open_cells T  U__law_open_cells e__law_open_cells
  have D__law_pick : Df l.prog w K mg base "_law_pick" ["source", "most"] 1 m_l_pick := d_l_pick__law_pick T  U__law_pick e__law_pick
  have D__law_common : Df l.prog w K mg base "_law_common" ["a", "b"] 1 m_l_common := d_l_common__law_common T  U__law_common e__law_common
  have D__law_fraction : Df l.prog w K mg base "_law_fraction" ["u", "d"] 2 m_l_fraction := d_l_fraction__law_fraction T D__law_common U__law_fraction e__law_fraction
  have D__law_number : Df l.prog w K mg base "_law_number" ["p", "n"] 1 m_l_number := d_l_number__law_number T  U__law_number e__law_number
  have D__law_plus : Df l.prog w K mg base "_law_plus" ["p", "x", "y"] 3 m_l_plus := d_l_plus__law_plus T D__law_fraction U__law_plus e__law_plus
  have D__law_times : Df l.prog w K mg base "_law_times" ["p", "x", "y"] 3 m_l_times := d_l_times__law_times T D__law_fraction U__law_times e__law_times
  have D__law_minus : Df l.prog w K mg base "_law_minus" ["p", "x", "y"] 4 m_l_minus := d_l_minus__law_minus T D__law_plus D__law_times D__law_number U__law_minus e__law_minus
  have D__law_draw_field : Df l.prog w K mg base "_law_draw_field" ["source"] 2 m_l_draw_field := d_l_draw_field__law_draw_field T D__law_pick U__law_draw_field e__law_draw_field
  have D__law_draw_worth : Df l.prog w K mg base "_law_draw_worth" ["source", "p"] 3 m_l_draw_worth := d_l_draw_worth__law_draw_worth T D__law_pick D__law_fraction U__law_draw_worth e__law_draw_worth
  have D__law_worth_row : Df l.prog w K mg base "_law_worth_row" ["p", "d", "m"] 5 m_l_worth_row := d_l_worth_row__law_worth_row T D__law_number D__law_minus D__law_times U__law_worth_row e__law_worth_row
  have D__law_length : Df l.prog w K mg base "_law_length" ["p", "d"] 6 m_l_length := d_l_length__law_length T D__law_worth_row D__law_number U__law_length e__law_length
  have D__law_count : Df l.prog w K mg base "_law_count" ["n", "k"] 1 m_l_count_v2 := d_l_count_v2__law_count T  U__law_count e__law_count
  have D__law_digits : Df l.prog w K mg base "_law_digits" ["p", "l", "whole"] 1 m_l_digits := d_l_digits__law_digits T  U__law_digits e__law_digits
  have D__law_support : Df l.prog w K mg base "_law_support" ["p", "l", "whole"] 2 m_l_support := d_l_support__law_support T D__law_digits U__law_support e__law_support
  have D__law_sizes : Df l.prog w K mg base "_law_sizes" ["p", "d", "n"] 7 m_l_sizes_v2 := d_l_sizes_v2__law_sizes T D__law_length D__law_support D__law_count U__law_sizes e__law_sizes
  have D__law_sizes_right : Df l.prog w K mg base "_law_sizes_right" ["p", "d", "n"] 9 m_l_sizes_right := d_l_sizes_right__law_sizes_right T D__law_sizes D__law_length D_sizes D__law_support D_pieces_of D__law_count D_size D_keeps_all D_shares_of D_lost D_all_kept U__law_sizes_right e__law_sizes_right
  exact fn_mk (fun_mk (st := s_law) l37 c37 k37) sc_law (by decide) (b_law T D__law_open_cells D__law_draw_field D__law_draw_worth D__law_pick D__law_sizes_right D_sizes D_size D_shares_of (fd := PySem.W.fnOf "law" "law" (defArgs s_law) (defBody s_law) (defScope s_law) .none kV37 dc37 pm37 an37 cd37 ct37))
end Lw.T

end
section
set_option Elab.async false
set_option linter.all false
set_option maxHeartbeats 1000000
/-! digits, supports: plain mathematics -/
namespace Dg
/-- the digits behind the first one -/
def tl (p r : Nat) : List Nat := if h : r = 0 then [] else if p < 2 then [r] else (r % p) :: tl p (r / p)
termination_by r
decreasing_by exact Nat.div_lt_self (by omega) (by omega)
theorem tl_zero (p : Nat) : tl p 0 = [] := by rw [tl]; simp
theorem tl_small {p r : Nat} (h : 0 < r) (hp : p < 2) : tl p r = [r] := by rw [tl]; simp [hp]; omega
theorem tl_step {p r : Nat} (h : 0 < r) (hp : 2 ≤ p) : tl p r = (r % p) :: tl p (r / p) := by
  rw [tl]; simp [show ¬ r = 0 by omega, show ¬ p < 2 by omega]
def dg (p : Nat) (l : Option Nat) (n : Nat) : List Nat := match l with
  | none => [n]
  | some l => (n % l) :: tl p (n / l)
def mulFrom (p : Nat) : Nat → List Nat → List Nat
  | _, [] => []
  | pl, d :: ds => d * pl :: mulFrom p (pl * p) ds
def parts (p : Nat) (l : Option Nat) (n : Nat) : List Nat := match dg p l n with
  | [] => []
  | d :: ds => d :: mulFrom p (l.getD 1) ds
theorem parts_none (p n : Nat) : parts p none n = [n] := rfl
theorem parts_some (p l n : Nat) : parts p (some l) n = (n % l) :: mulFrom p l (tl p (n / l)) := rfl
theorem mulFrom_length (p : Nat) : ∀ (ds : List Nat) (pl : Nat), (mulFrom p pl ds).length = ds.length
  | [], _ => rfl
  | _ :: ds, pl => congrArg (· + 1) (mulFrom_length p ds _)
theorem mulFrom_scale (p c : Nat) : ∀ (ds : List Nat) (pl : Nat), mulFrom p (c * pl) ds = (mulFrom p pl ds).map (c * ·)
  | [], _ => rfl
  | d :: ds, pl => by
    show d * (c * pl) :: mulFrom p (c * pl * p) ds = (c * (d * pl)) :: (mulFrom p (pl * p) ds).map (c * ·)
    rw [Nat.mul_assoc c pl p, mulFrom_scale p c ds (pl * p), Nat.mul_left_comm]
/-- with a prime the tail's parts are those of the same number -/
theorem parts_tail {p r : Nat} (hp : 2 ≤ p) (h : 0 < r) : mulFrom p 1 (tl p r) = parts p (some p) r := by
  rw [tl_step h hp, parts_some]
  show r % p * 1 :: mulFrom p (1 * p) (tl p (r / p)) = _
  rw [Nat.mul_one, Nat.one_mul]
theorem parts_rec {p l n : Nat} (hp : 2 ≤ p) (h : 0 < n / l) : parts p (some l) n = (n % l) :: (parts p (some p) (n / l)).map (l * ·) := by
  rw [parts_some, ← parts_tail hp h, ← mulFrom_scale, Nat.mul_one]
theorem parts_one {p l n : Nat} (h : n / l = 0) : parts p (some l) n = [n % l] := by
  rw [parts_some, h, tl_zero]; rfl
theorem parts_zero {p l n : Nat} (hp : p < 2) (h : 0 < n / l) : parts p (some l) n = [n % l, n / l * l] := by
  rw [parts_some, tl_small h hp]; rfl
theorem parts_ne (p : Nat) (l : Option Nat) (n : Nat) : parts p l n ≠ [] := by
  cases l <;> simp [parts, dg]

/-! ### all that comes of adding and taking away -/
def sg : List Nat → List Int
  | [] => [0]
  | d :: ds => if d = 0 then sg ds else (sg ds).map (· + (d : Int)) ++ (sg ds).map (· - (d : Int))
theorem mem_sg_zero {ds : List Nat} {r : Int} : r ∈ sg (0 :: ds) ↔ r ∈ sg ds := by
  show r ∈ (if (0 : Nat) = 0 then sg ds else _) ↔ _
  rw [if_pos rfl]
theorem mem_sg {d : Nat} {ds : List Nat} {r : Int} : r ∈ sg (d :: ds) ↔ r - d ∈ sg ds ∨ r + d ∈ sg ds := by
  by_cases h : d = 0
  · subst h
    rw [mem_sg_zero]; simp
  · show r ∈ (if d = 0 then sg ds else (sg ds).map (· + (d : Int)) ++ (sg ds).map (· - (d : Int))) ↔ _
    rw [if_neg h, List.mem_append, List.mem_map, List.mem_map]
    constructor
    · rintro (⟨x, hx, rfl⟩ | ⟨x, hx, rfl⟩)
      · left; rw [Int.add_sub_cancel]; exact hx
      · right; rw [Int.sub_add_cancel]; exact hx
    · rintro (h | h)
      · exact .inl ⟨_, h, by omega⟩
      · exact .inr ⟨_, h, by omega⟩
theorem sg_perm {xs ys : List Nat} (h : xs.Perm ys) : ∀ r : Int, r ∈ sg xs ↔ r ∈ sg ys := by
  induction h with
  | nil => intro r; rfl
  | cons x _ ih => intro r; rw [mem_sg, mem_sg, ih, ih]
  | swap x y l =>
    intro r
    rw [mem_sg, mem_sg, mem_sg, mem_sg, mem_sg, mem_sg]
    rw [show r - (y : Int) - x = r - x - y by omega, show r - (y : Int) + x = r + x - y by omega, show r + (y : Int) - x = r - x + y by omega, show r + (y : Int) + x = r + x + y by omega]
    constructor
    · rintro ((h | h) | (h | h))
      · exact .inl (.inl h)
      · exact .inr (.inl h)
      · exact .inl (.inr h)
      · exact .inr (.inr h)
    · rintro ((h | h) | (h | h))
      · exact .inl (.inl h)
      · exact .inr (.inl h)
      · exact .inl (.inr h)
      · exact .inr (.inr h)
  | trans _ _ ih1 ih2 => intro r; rw [ih1, ih2]
theorem sg_bound : ∀ (ds : List Nat) (r : Int), r ∈ sg ds → r.natAbs ≤ ds.sum
  | [], r, h => by
    have : r = 0 := by simpa [sg] using h
    subst this; simp
  | d :: ds, r, h => by
    rw [List.sum_cons]
    rcases mem_sg.mp h with h | h
    · have := sg_bound ds _ h; omega
    · have := sg_bound ds _ h; omega
theorem sg_scale {l : Nat} (hl : 0 < l) : ∀ (ds : List Nat) (r : Int), r ∈ sg (ds.map (l * ·)) ↔ ∃ y, r = l * y ∧ y ∈ sg ds
  | [], r => by
    have e : r ∈ sg ([].map (l * ·)) ↔ r = 0 := by simp [sg]
    rw [e]
    constructor
    · rintro rfl; exact ⟨0, by simp, by simp [sg]⟩
    · rintro ⟨y, rfl, hy⟩
      have : y = 0 := by simpa [sg] using hy
      subst this; simp
  | d :: ds, r => by
    rw [List.map_cons, mem_sg, sg_scale hl ds, sg_scale hl ds]
    have cast : (((l * d : Nat)) : Int) = (l : Int) * d := by simp
    constructor
    · rintro (⟨y, e, hy⟩ | ⟨y, e, hy⟩)
      · refine ⟨y + d, ?_, mem_sg.mpr (.inl (by rw [Int.add_sub_cancel]; exact hy))⟩
        rw [Int.mul_add, ← e]; omega
      · refine ⟨y - d, ?_, mem_sg.mpr (.inr (by rw [Int.sub_add_cancel]; exact hy))⟩
        rw [Int.mul_sub, ← e]; omega
    · rintro ⟨y, rfl, hy⟩
      rcases mem_sg.mp hy with h | h
      · exact .inl ⟨y - d, by rw [Int.mul_sub]; omega, h⟩
      · exact .inr ⟨y + d, by rw [Int.mul_add]; omega, h⟩
/-- N comes of the parts qs, the last one as it is -/
def InS (qs : List Nat) (N : Int) : Prop := N - (qs.getLastD 0 : Nat) ∈ sg qs.dropLast
theorem inS_one {a : Nat} {N : Int} : InS [a] N ↔ N = a := by
  unfold InS
  simp [sg]; omega
theorem inS_cons {l d : Nat} {qs : List Nat} {N : Int} (hl : 0 < l) (hq : qs ≠ []) : InS (d :: qs.map (l * ·)) N ↔ ∃ x, InS qs x ∧ (N = l * x + d ∨ N = l * x - d) := by
  obtain ⟨b, q, rfl⟩ : ∃ b q, qs = q ++ [b] := by
    exact ⟨qs.getLast hq, qs.dropLast, (List.dropLast_concat_getLast hq).symm⟩
  have e1 : (d :: (q ++ [b]).map (l * ·)).getLastD 0 = l * b := by
    rw [List.map_append, ← List.cons_append]; simp only [List.map_cons, List.map_nil, List.getLastD_concat]
  have e2 : (d :: (q ++ [b]).map (l * ·)).dropLast = d :: q.map (l * ·) := by
    rw [List.map_append, ← List.cons_append]; simp only [List.map_cons, List.map_nil, List.dropLast_concat]
  have e3 : (q ++ [b]).getLastD 0 = b := by simp
  have e4 : (q ++ [b]).dropLast = q := by simp
  unfold InS
  rw [e1, e2, e3, e4, mem_sg, sg_scale hl, sg_scale hl]
  have cast : (((l * b : Nat)) : Int) = (l : Int) * b := by simp
  constructor
  · rintro (⟨y, e, hy⟩ | ⟨y, e, hy⟩)
    · refine ⟨y + b, by rw [Int.add_sub_cancel]; exact hy, .inl ?_⟩
      rw [Int.mul_add]; omega
    · refine ⟨y + b, by rw [Int.add_sub_cancel]; exact hy, .inr ?_⟩
      rw [Int.mul_add]; omega
  · rintro ⟨x, hx, e | e⟩
    · refine .inl ⟨x - b, ?_, hx⟩
      rw [Int.mul_sub]; omega
    · refine .inr ⟨x - b, ?_, hx⟩
      rw [Int.mul_sub]; omega

/-! ### what a room holds -/
inductive Mem (p : Nat) : Nat → Nat → Int → Prop
  | top {l R : Nat} : R < l → Mem p l R R
  | add {l R : Nat} {x : Int} : l ≤ R → Mem p p (R / l) x → Mem p l R (l * x + (R % l : Nat))
  | sub {l R : Nat} {x : Int} : l ≤ R → Mem p p (R / l) x → Mem p l R (l * x - (R % l : Nat))
theorem mem_of_inS {p : Nat} (hp : 2 ≤ p) : ∀ (R l : Nat) (N : Int), 2 ≤ l → (InS (parts p (some l) R) N ↔ Mem p l R N) := by
  intro R
  induction R using Nat.strongRecOn with
  | ind R ih =>
    intro l N hl
    by_cases h : R < l
    · have h0 : R / l = 0 := Nat.div_eq_of_lt h
      rw [parts_one h0, inS_one, Nat.mod_eq_of_lt h]
      constructor
      · rintro rfl; exact .top h
      · intro m
        cases m with
        | top _ => rfl
        | add h2 _ => omega
        | sub h2 _ => omega
    · have hR : l ≤ R := by omega
      have h1 : 0 < R / l := Nat.div_pos hR (by omega)
      have h2 : R / l < R := Nat.div_lt_self (by omega) (by omega)
      rw [parts_rec hp h1, inS_cons (by omega) (parts_ne _ _ _)]
      constructor
      · rintro ⟨x, hx, rfl | rfl⟩
        · exact .add hR ((ih _ h2 p x hp).mp hx)
        · exact .sub hR ((ih _ h2 p x hp).mp hx)
      · intro m
        cases m with
        | top h3 => omega
        | add _ m => exact ⟨_, (ih _ h2 p _ hp).mpr m, .inl rfl⟩
        | sub _ m => exact ⟨_, (ih _ h2 p _ hp).mpr m, .inr rfl⟩
theorem Mem.le {p : Nat} : ∀ {l R : Nat} {N : Int}, Mem p l R N → N ≤ R ∧ -(R : Int) ≤ N := by
  intro l R N m
  induction m with
  | top h => omega
  | @add l R x h m ih =>
    have e : (l : Int) * (R / l : Nat) + (R % l : Nat) = R := by
      have := Nat.div_add_mod R l
      omega
    obtain ⟨h1, h2⟩ := ih
    have a : (l : Int) * x ≤ l * (R / l : Nat) := Int.mul_le_mul_of_nonneg_left h1 (by omega)
    have b : (l : Int) * (-((R / l : Nat) : Int)) ≤ l * x := Int.mul_le_mul_of_nonneg_left h2 (by omega)
    rw [Int.mul_neg] at b
    omega
  | @sub l R x h m ih =>
    have e : (l : Int) * (R / l : Nat) + (R % l : Nat) = R := by
      have := Nat.div_add_mod R l
      omega
    obtain ⟨h1, h2⟩ := ih
    have a : (l : Int) * x ≤ l * (R / l : Nat) := Int.mul_le_mul_of_nonneg_left h1 (by omega)
    have b : (l : Int) * (-((R / l : Nat) : Int)) ≤ l * x := Int.mul_le_mul_of_nonneg_left h2 (by omega)
    rw [Int.mul_neg] at b
    omega
/-- a piece beyond lies beyond a place that does not divide -/
theorem Mem.least {p : Nat} (hp : 2 ≤ p) {l R : Nat} {N : Int} (m : Mem p l R N) (hl : 2 ≤ l) (h : N < R) : ∃ (i : Nat) (k : Int), ((l * p ^ i : Nat) : Int) * (k - 1) < N ∧ N < ((l * p ^ i : Nat) : Int) * k ∧ 2 * (((l * p ^ i : Nat) : Int) * k) - N ≤ R := by
  induction m with
  | top h' => omega
  | @add l R x hlR m ih =>
    have e : (l : Int) * (R / l : Nat) + (R % l : Nat) = R := by
      have := Nat.div_add_mod R l
      omega
    have hx : x < (R / l : Nat) := by
      have h1 : (l : Int) * x < l * (R / l : Nat) := by omega
      exact Int.lt_of_mul_lt_mul_left h1 (by omega)
    obtain ⟨i, k, a, b, c⟩ := ih hp hx
    have hd : ((R % l : Nat) : Int) < l := by
      have := Nat.mod_lt R (show 0 < l by omega)
      omega
    refine ⟨i + 1, k, ?_⟩
    have ee : ((l * p ^ (i + 1) : Nat) : Int) = l * (p * p ^ i : Nat) := by rw [Nat.pow_succ, Nat.mul_comm (p ^ i) p]; simp
    rw [ee, Int.mul_assoc, Int.mul_assoc]
    have b' : x + 1 ≤ ((p * p ^ i : Nat) : Int) * k := b
    have b2 : (l : Int) * (x + 1) ≤ l * (((p * p ^ i : Nat) : Int) * k) := Int.mul_le_mul_of_nonneg_left b' (by omega)
    have a2 : (l : Int) * (((p * p ^ i : Nat) : Int) * (k - 1)) < l * x := by
      exact Int.mul_lt_mul_of_pos_left a (by omega)
    have c2 : (l : Int) * (2 * (((p * p ^ i : Nat) : Int) * k) - x) ≤ l * (R / l : Nat) := Int.mul_le_mul_of_nonneg_left c (by omega)
    rw [Int.mul_add, Int.mul_one] at b2
    rw [Int.mul_sub, Int.mul_left_comm] at c2
    refine ⟨by omega, by omega, by omega⟩
  | @sub l R x hlR m ih =>
    have e : (l : Int) * (R / l : Nat) + (R % l : Nat) = R := by
      have := Nat.div_add_mod R l
      omega
    have hd : ((R % l : Nat) : Int) < l := by
      have := Nat.mod_lt R (show 0 < l by omega)
      omega
    by_cases hx : x < (R / l : Nat)
    · obtain ⟨i, k, a, b, c⟩ := ih hp hx
      refine ⟨i + 1, k, ?_⟩
      have ee : ((l * p ^ (i + 1) : Nat) : Int) = l * (p * p ^ i : Nat) := by rw [Nat.pow_succ, Nat.mul_comm (p ^ i) p]; simp
      rw [ee, Int.mul_assoc, Int.mul_assoc]
      have a' : ((p * p ^ i : Nat) : Int) * (k - 1) + 1 ≤ x := a
      have a2 : (l : Int) * (((p * p ^ i : Nat) : Int) * (k - 1) + 1) ≤ l * x := Int.mul_le_mul_of_nonneg_left a' (by omega)
      have b2 : (l : Int) * x < l * (((p * p ^ i : Nat) : Int) * k) := Int.mul_lt_mul_of_pos_left b (by omega)
      have c2 : (l : Int) * (2 * (((p * p ^ i : Nat) : Int) * k) - x) ≤ l * (R / l : Nat) := Int.mul_le_mul_of_nonneg_left c (by omega)
      rw [Int.mul_add, Int.mul_one] at a2
      rw [Int.mul_sub, Int.mul_left_comm] at c2
      refine ⟨by omega, by omega, by omega⟩
    · have hx' : x = (R / l : Nat) := by
        have := m.le.1
        omega
      refine ⟨0, (R / l : Nat), ?_⟩
      rw [Nat.pow_zero, Nat.mul_one, hx']
      rw [hx'] at h
      rw [Int.mul_sub, Int.mul_one]
      refine ⟨by omega, by omega, by omega⟩
/-- .. and the least one is there -/
theorem Mem.there {p : Nat} (hp : 2 ≤ p) : ∀ (i l N : Nat), 2 ≤ l → (∀ j, j < i → N % (l * p ^ j) = 0) → N % (l * p ^ i) ≠ 0 → Mem p l (2 * (N / (l * p ^ i) + 1) * (l * p ^ i) - N) N := by
  intro i
  induction i with
  | zero =>
    intro l N hl _ h
    rw [Nat.pow_zero, Nat.mul_one] at h ⊢
    have h1 := Nat.div_add_mod N l
    have h2 := Nat.mod_lt N (show 0 < l by omega)
    have eR : 2 * (N / l + 1) * l - N = l * (N / l + 1) + (l - N % l) := by
      have : 2 * (N / l + 1) * l = l * (N / l + 1) + (l * (N / l) + l) := by
        rw [Nat.mul_assoc, Nat.two_mul, Nat.mul_comm (N / l + 1) l, Nat.mul_add l (N / l) 1, Nat.mul_one]
      omega
    rw [eR]
    have hd : l - N % l < l := by omega
    have hR : l ≤ l * (N / l + 1) + (l - N % l) := by
      have : l * 1 ≤ l * (N / l + 1) := Nat.mul_le_mul_left l (Nat.succ_le_succ (Nat.zero_le _))
      omega
    have q1 : (l * (N / l + 1) + (l - N % l)) / l = N / l + 1 := by
      rw [Nat.mul_add_div (by omega), Nat.div_eq_of_lt hd]
    have q2 : (l * (N / l + 1) + (l - N % l)) % l = l - N % l := by
      rw [Nat.mul_add_mod, Nat.mod_eq_of_lt hd]
    have top : ∀ (r : Nat), 0 < r → Mem p p r r := by
      intro r
      induction r using Nat.strongRecOn with
      | ind r ih =>
        intro hr
        by_cases c : r < p
        · exact .top c
        · have c1 : 0 < r / p := Nat.div_pos (by omega) (by omega)
          have c2 : r / p < r := Nat.div_lt_self hr (by omega)
          have := Mem.add (show p ≤ r by omega) (ih _ c2 c1)
          have e : (p : Int) * (r / p : Nat) + (r % p : Nat) = r := by
            have := Nat.div_add_mod r p
            omega
          rw [e] at this
          exact this
    have m := Mem.sub hR (x := (N / l + 1 : Nat)) (by rw [q1]; exact top _ (Nat.succ_pos _))
    rw [q2] at m
    have e : (l : Int) * (N / l + 1 : Nat) - (l - N % l : Nat) = N := by
      have : (l : Int) * (N / l + 1 : Nat) = ((l * (N / l) + l : Nat) : Int) := by
        rw [show l * (N / l) + l = l * (N / l + 1) by rw [Nat.mul_add, Nat.mul_one]]; simp
      omega
    rw [e] at m
    exact m
  | succ i ih =>
    intro l N hl hj h
    have h0 : N % l = 0 := by
      have := hj 0 (by omega)
      rwa [Nat.pow_zero, Nat.mul_one] at this
    have eN : l * (N / l) = N := Nat.mul_div_cancel' (Nat.dvd_of_mod_eq_zero h0)
    have eP : l * p ^ (i + 1) = l * (p * p ^ i) := by rw [Nat.pow_succ, Nat.mul_comm (p ^ i) p]
    have modl : ∀ q, N % (l * q) = l * (N / l % q) := fun q => by
      rw [← eN, Nat.mul_mod_mul_left, eN]
    have ih1 := ih p (N / l) hp (fun j hj' => by
      have := hj (j + 1) (by omega)
      rw [show l * p ^ (j + 1) = l * (p * p ^ j) by rw [Nat.pow_succ, Nat.mul_comm (p ^ j) p], modl] at this
      rcases Nat.mul_eq_zero.mp this with z | z
      · omega
      · exact z) (by
      rw [eP, modl] at h
      exact fun z => h (by rw [z]; rfl))
    have eD : N / (l * (p * p ^ i)) = N / l / (p * p ^ i) := (Nat.div_div_eq_div_mul N l (p * p ^ i)).symm
    rw [eP, eD]
    have eR : 2 * (N / l / (p * p ^ i) + 1) * (l * (p * p ^ i)) - N = l * (2 * (N / l / (p * p ^ i) + 1) * (p * p ^ i) - N / l) := by
      rw [Nat.mul_sub, eN, Nat.mul_left_comm]
    rw [eR]
    have hlt : N / l < 2 * (N / l / (p * p ^ i) + 1) * (p * p ^ i) := by
      have hpp : 0 < p * p ^ i := Nat.mul_pos (by omega) (Nat.pow_pos (by omega))
      have h3 := Nat.div_add_mod (N / l) (p * p ^ i)
      have h4 := Nat.mod_lt (N / l) hpp
      have : (N / l / (p * p ^ i) + 1) * (p * p ^ i) = (p * p ^ i) * (N / l / (p * p ^ i)) + p * p ^ i := by rw [Nat.add_mul, Nat.one_mul, Nat.mul_comm]
      rw [Nat.mul_assoc, this]
      omega
    have hpos : 0 < 2 * (N / l / (p * p ^ i) + 1) * (p * p ^ i) - N / l := by omega
    have hR : l ≤ l * (2 * (N / l / (p * p ^ i) + 1) * (p * p ^ i) - N / l) := Nat.le_mul_of_pos_right l hpos
    have m := Mem.add hR (x := ((N / l : Nat) : Int)) (by rw [Nat.mul_div_cancel_left _ (show 0 < l by omega)]; exact ih1)
    rw [Nat.mul_mod_right] at m
    have e : (l : Int) * ((N / l : Nat) : Int) + ((0 : Nat) : Int) = N := by
      have : (l : Int) * (N / l : Nat) = ((l * (N / l) : Nat) : Int) := by simp
      rw [this, eN]; simp
    rw [e] at m
    exact m
end Dg

end
section


set_option Elab.async false
set_option linter.all false
set_option maxRecDepth 100000
set_option maxHeartbeats 2000000
namespace Lw.T
open PySem PySem.Spec L2 Lw
/-! ### drawing -/
def Good (s : Sc) : Prop := s.cells.length ≤ 1000
theorem pick_loop (most : Int) : ∀ (n : Nat) (s : Sc), s.cells.length ≤ n → ∃ s', whl (cAnd (cB (fOp2 oLt (rVal (fSrcGet 0 .left)) (rVal (fLit (.int 2))))) (cB (fOp2 oGt (rVal (fCelLen 2)) (rVal (fLit (.int 0)))))) (fSrcPut 0 .left (fCelPop 2)) (n + 1)
    [some (.fr .src), some (.fr (.int most)), some (.fr .cel), none, none, none] (some s) = some (.nx, [some (.fr .src), some (.fr (.int most)), some (.fr .cel), none, none, none], some s') ∧ s'.cells.length ≤ s.cells.length := by
  intro n
  induction n with
  | zero =>
    intro s hs
    refine ⟨s, ?_, Nat.le_refl _⟩
    have h0 : s.cells.length = 0 := by omega
    refine whl_end ?_
    by_cases h : s.left < 2 <;> simp [q_bind, fSrcGet, isSrcSl, Sc.get, oLt, fCelLen, isCelSl, oGt, h, h0]
  | succ n ih =>
    intro s hs
    by_cases h : s.left < 2 ∧ 0 < s.cells.length
    · obtain ⟨h1, h2⟩ := h
      have h3 : s.cells.length - 1 < s.cells.length := by omega
      obtain ⟨s', e, hl⟩ := ih { s with cells := s.cells.dropLast, left := s.cells[s.cells.length - 1] } (by simp; omega)
      refine ⟨s', ?_, by simp at hl; omega⟩
      rw [whl_nx (ρ1 := [some (.fr .src), some (.fr (.int most)), some (.fr .cel), none, none, none]) (w1 := some s) ?_ ?_]
      · exact e
      · simp [q_bind, fSrcGet, isSrcSl, Sc.get, oLt, fCelLen, isCelSl, oGt, h1, h2]
      · simp [q_bind, fCelPop, isCelSl, mSrcPut, isSrcSl, Sc.put, h3]
    · refine ⟨s, whl_end ?_, Nat.le_refl _⟩
      by_cases h1 : s.left < 2
      · have h2 : s.cells.length = 0 := by omega
        simp [q_bind, fSrcGet, isSrcSl, Sc.get, oLt, fCelLen, isCelSl, oGt, h1, h2]
      · simp [q_bind, fSrcGet, isSrcSl, Sc.get, oLt, fCelLen, isCelSl, oGt, h1]
theorem pick_ok {most : Int} {s : Sc} (h : 2 ≤ most) (hb : most.natAbs.log2 < 9000) (g : Good s) : ∃ v s', m_l_pick [.src, .int most] (some s) = some (.int v, some s') ∧ 0 ≤ v ∧ v < most ∧ Good s' := by
  obtain ⟨s1, e1, l1⟩ := pick_loop most 999999 s (by unfold Good at g; omega)
  have e1' : fWhile (cAnd (cB (fOp2 oLt (rVal (fSrcGet 0 .left)) (rVal (fLit (.int 2))))) (cB (fOp2 oGt (rVal (fCelLen 2)) (rVal (fLit (.int 0)))))) (fSrcPut 0 .left (fCelPop 2))
    [some (.fr .src), some (.fr (.int most)), some (.fr .cel), none, none, none] (some s) = some (.nx, [some (.fr .src), some (.fr (.int most)), some (.fr .cel), none, none, none], some s1) := e1
  have n2 : ¬ most < 2 := by omega
  have n0 : most ≠ 0 := by omega
  have hp : 0 < most := by omega
  by_cases h1 : 1 < s1.left
  · refine ⟨s1.left.fmod most, { s1 with left := s1.left.fdiv most }, ?_, Int.fmod_nonneg_of_pos _ hp, Int.fmod_lt_of_pos _ hp, by unfold Good at *; simp; omega⟩
    simp [m_l_pick, u_run, F_l_pick, env0, q_bind, n2, oLt, fSrcCel, isSrcSl, e1', fSrcGet, Sc.get, oGt, h1, oDiv, divOk, n0, hb, mSrcPut, Sc.put, cInt, oMod]
  · refine ⟨((((s1.mixed + (s1.turn + 1) * 104729).fmod 998244353 * (s1.mixed + (s1.turn + 1) * 104729).fmod 998244353 + (s1.turn + 1) * 17).fmod 2147483647).fdiv 16).fmod most, { s1 with turn := s1.turn + 1 }, ?_, Int.fmod_nonneg_of_pos _ hp, Int.fmod_lt_of_pos _ hp, by unfold Good at *; simp; omega⟩
    have m1 : mulOk (s1.turn + 1) 104729 = true := by simp [mulOk]
    have m2 : mulOk (s1.turn + 1) 17 = true := by simp [mulOk]
    have m3 : mulOk ((s1.mixed + (s1.turn + 1) * 104729).fmod 998244353) ((s1.mixed + (s1.turn + 1) * 104729).fmod 998244353) = true := by
      have a1 := Int.fmod_nonneg_of_pos (s1.mixed + (s1.turn + 1) * 104729) (b := 998244353) (by decide)
      have a2 := Int.fmod_lt_of_pos (s1.mixed + (s1.turn + 1) * 104729) (b := 998244353) (by decide)
      have : ((s1.mixed + (s1.turn + 1) * 104729).fmod 998244353).natAbs < 2 ^ 64 := by omega
      simp only [mulOk, this, decide_true, Bool.true_or]
    simp [m_l_pick, u_run, F_l_pick, env0, q_bind, n2, oLt, fSrcCel, isSrcSl, e1', fSrcGet, Sc.get, oGt, h1, mSrcPut, Sc.put, oAdd, oMul, m1, m2, m3, cInt, oMod, oDiv, show divOk 16 = true from by decide, n0]
end Lw.T

end
section



set_option Elab.async false
set_option linter.all false
set_option maxRecDepth 100000
set_option maxHeartbeats 2000000
namespace Lw.T
open PySem PySem.Spec L2 Lw Dg
def lD : Option Nat → Dt
  | none => .non
  | some l => nD l
/-- a prime, or 0 -/
def FitP (p : Nat) : Prop := p = 0 ∨ (2 ≤ p ∧ p ≤ 13)
def FitL : Option Nat → Prop
  | none => True
  | some l => 2 ≤ l ∧ l ≤ 200
theorem big_ok : ∀ {r : Nat}, r < 2 ^ 200 → r < 2 ^ 999999 := fun h => Nat.lt_of_lt_of_le h (Nat.pow_le_pow_right (by decide) (by decide))
theorem half_lt {r p k : Nat} (hp : 2 ≤ p) (h : r < 2 ^ (k + 1)) : r / p < 2 ^ k := by
  have : r / p ≤ r / 2 := Nat.div_le_div_left hp (by decide)
  rw [Nat.pow_succ] at h
  omega
abbrev Bdig : M Fl := fIfS (cB (fOp2 oEq (rVar 0) (rVal (fLit (.int 0))))) (fSeq (fDrop (fApp 3 (fVar 4))) (fSet 4 (fLit (.int 0)))) (fSeq (fDrop (fApp 3 (fOp2 oMod (rVar 4) (rVar 0)))) (fSet 4 (fOp2 oDiv (rVar 4) (rVar 0))))
theorem dig_whl {p : Nat} (hp : FitP p) (dl dn : Dt) (w : Wd) : ∀ (k r : Nat) (acc : List Nat), r < 2 ^ k → acc.length + k < 16777216 → whl (cB (fOp2 oGt (rVar 4) (rVal (fLit (.int 0))))) Bdig (k + 1)
    [some (.fr (nD p)), some (.fr dl), some (.fr dn), some (.owL (toD acc)), some (.fr (nD r))] w = some (.nx, [some (.fr (nD p)), some (.fr dl), some (.fr dn), some (.owL (toD (acc ++ tl p r))), some (.fr (nD 0))], w) := by
  have done : ∀ (k : Nat) (acc : List Nat), whl (cB (fOp2 oGt (rVar 4) (rVal (fLit (.int 0))))) Bdig (k + 1) [some (.fr (nD p)), some (.fr dl), some (.fr dn), some (.owL (toD acc)), some (.fr (nD 0))] w = some (.nx, [some (.fr (nD p)), some (.fr dl), some (.fr dn), some (.owL (toD acc)), some (.fr (nD 0))], w) :=
    fun k acc => whl_end (by simp [q_bind])
  intro k
  induction k with
  | zero =>
    intro r acc hr _
    have h0 : r = 0 := by simpa using hr
    subst h0
    rw [tl_zero, List.append_nil, done]
  | succ k ih =>
    intro r acc hr hl
    by_cases h0 : r = 0
    · subst h0
      rw [tl_zero, List.append_nil, done]
    · have hpos : 0 < r := by omega
      have hsz : acc.length < sizeLine := by rw [sizeLine_eq]; omega
      rcases hp with rfl | ⟨hp2, hp13⟩
      · rw [tl_small hpos (by omega)]
        rw [whl_nx (ρ1 := [some (.fr (nD 0)), some (.fr dl), some (.fr dn), some (.owL (toD acc)), some (.fr (nD r))]) (w1 := w)
          (ρ2 := [some (.fr (nD 0)), some (.fr dl), some (.fr dn), some (.owL (toD (acc ++ [r]))), some (.fr (.int 0))]) (w2 := w) ?_ ?_]
        · exact done _ _
        · simp [q_bind, hpos]
        · simp [q_bind, isOwL, mApp, toD, hsz]
      · rw [tl_step hpos hp2]
        have hp0 : ¬ p = 0 := by omega
        have hd : divOk (p : Int) = true := divOk_small (by omega) (by omega)
        rw [whl_nx (ρ1 := [some (.fr (nD p)), some (.fr dl), some (.fr dn), some (.owL (toD acc)), some (.fr (nD r))]) (w1 := w)
          (ρ2 := [some (.fr (nD p)), some (.fr dl), some (.fr dn), some (.owL (toD (acc ++ [r % p]))), some (.fr (nD (r / p)))]) (w2 := w) ?_ ?_]
        · have := ih (r / p) (acc ++ [r % p]) (half_lt hp2 hr) (by simp; omega)
          rw [this, List.append_assoc]; rfl
        · simp [q_bind, hpos]
        · simp [q_bind, isOwL, mApp, toD, hsz, hp0, nd_mod hp0, nd_div hd]
theorem digits_ok {p n : Nat} {l : Option Nat} (hp : FitP p) (hl : FitL l) (hn : n < 2 ^ 200) (w : Wd) : m_digits [nD p, lD l, nD n] w = some (.tup (toD (dg p l n)), w) := by
  cases l with
  | none => simp [m_digits, u_run, F_digits, env0, q_bind, lD, oIs, inLine_ok, toD, dg]
  | some l =>
    obtain ⟨h2, h200⟩ := hl
    have hl0 : l ≠ 0 := by omega
    have hd : divOk (l : Int) = true := divOk_small (by omega) (by omega)
    have hq : n / l < 2 ^ 999999 := Nat.lt_of_le_of_lt (Nat.div_le_self n l) (big_ok hn)
    have e : fWhile (cB (fOp2 oGt (rVar 4) (rVal (fLit (.int 0))))) Bdig [some (.fr (nD p)), some (.fr (nD l)), some (.fr (nD n)), some (.owL [nD (n % l)]), some (.fr (nD (n / l)))] w = _ := dig_whl hp (nD l) (nD n) w 999999 (n / l) [n % l] hq (by simp)
    simp [m_digits, u_run, F_digits, env0, q_bind, lD, oIs, inLine_ok, toD, dg, nd_mod hl0, nd_div hd, e, cTuple]
abbrev Bldig : M Fl := fSeq (fDrop (fApp 3 (fIf (cB (fOp2 oGt (rVar 0) (rVal (fLit (.int 0))))) (fOp2 oMod (rVar 4) (rVar 0)) (fVar 4)))) (fSet 4 (fIf (cB (fOp2 oGt (rVar 0) (rVal (fLit (.int 0))))) (fOp2 oDiv (rVar 4) (rVar 0)) (fLit (.int 0))))
theorem ldig_whl {p : Nat} (hp : FitP p) (dl dn : Dt) (w : Wd) : ∀ (k r : Nat) (acc : List Nat), r < 2 ^ k → acc.length + k < 16777216 → whl (cB (fOp2 oGt (rVar 4) (rVal (fLit (.int 0))))) Bldig (k + 1)
    [some (.fr (nD p)), some (.fr dl), some (.fr dn), some (.owL (toD acc)), some (.fr (nD r))] w = some (.nx, [some (.fr (nD p)), some (.fr dl), some (.fr dn), some (.owL (toD (acc ++ tl p r))), some (.fr (nD 0))], w) := by
  have done : ∀ (k : Nat) (acc : List Nat), whl (cB (fOp2 oGt (rVar 4) (rVal (fLit (.int 0))))) Bldig (k + 1) [some (.fr (nD p)), some (.fr dl), some (.fr dn), some (.owL (toD acc)), some (.fr (nD 0))] w = some (.nx, [some (.fr (nD p)), some (.fr dl), some (.fr dn), some (.owL (toD acc)), some (.fr (nD 0))], w) :=
    fun k acc => whl_end (by simp [q_bind])
  intro k
  induction k with
  | zero =>
    intro r acc hr _
    have h0 : r = 0 := by simpa using hr
    subst h0
    rw [tl_zero, List.append_nil, done]
  | succ k ih =>
    intro r acc hr hl
    by_cases h0 : r = 0
    · subst h0
      rw [tl_zero, List.append_nil, done]
    · have hpos : 0 < r := by omega
      have hsz : acc.length < sizeLine := by rw [sizeLine_eq]; omega
      rcases hp with rfl | ⟨hp2, hp13⟩
      · rw [tl_small hpos (by omega)]
        rw [whl_nx (ρ1 := [some (.fr (nD 0)), some (.fr dl), some (.fr dn), some (.owL (toD acc)), some (.fr (nD r))]) (w1 := w)
          (ρ2 := [some (.fr (nD 0)), some (.fr dl), some (.fr dn), some (.owL (toD (acc ++ [r]))), some (.fr (.int 0))]) (w2 := w) ?_ ?_]
        · exact done _ _
        · simp [q_bind, hpos]
        · simp [q_bind, isOwL, mApp, toD, hsz]
      · rw [tl_step hpos hp2]
        have hp0 : ¬ p = 0 := by omega
        have hpp : 0 < p := by omega
        have hd : divOk (p : Int) = true := divOk_small (by omega) (by omega)
        rw [whl_nx (ρ1 := [some (.fr (nD p)), some (.fr dl), some (.fr dn), some (.owL (toD acc)), some (.fr (nD r))]) (w1 := w)
          (ρ2 := [some (.fr (nD p)), some (.fr dl), some (.fr dn), some (.owL (toD (acc ++ [r % p]))), some (.fr (nD (r / p)))]) (w2 := w) ?_ ?_]
        · have := ih (r / p) (acc ++ [r % p]) (half_lt hp2 hr) (by simp; omega)
          rw [this, List.append_assoc]; rfl
        · simp [q_bind, hpos]
        · simp [q_bind, isOwL, mApp, toD, hsz, hpp, nd_mod hp0, nd_div hd]
theorem ldigits_ok {p n : Nat} {l : Option Nat} (hp : FitP p) (hl : FitL l) (hn : n < 2 ^ 200) (w : Wd) : m_l_digits [nD p, lD l, nD n] w = some (.lst (toD (dg p l n)), w) := by
  cases l with
  | none => simp [m_l_digits, u_run, F_l_digits, env0, q_bind, lD, oIs, inLine_ok, toD, dg]
  | some l =>
    obtain ⟨h2, h200⟩ := hl
    have hl0 : l ≠ 0 := by omega
    have hd : divOk (l : Int) = true := divOk_small (by omega) (by omega)
    have hq : n / l < 2 ^ 999999 := Nat.lt_of_le_of_lt (Nat.div_le_self n l) (big_ok hn)
    have e : fWhile (cB (fOp2 oGt (rVar 4) (rVal (fLit (.int 0))))) Bldig [some (.fr (nD p)), some (.fr (nD l)), some (.fr (nD n)), some (.owL [nD (n % l)]), some (.fr (nD (n / l)))] w = _ := ldig_whl hp (nD l) (nD n) w 999999 (n / l) [n % l] hq (by simp)
    simp [m_l_digits, u_run, F_l_digits, env0, q_bind, lD, oIs, inLine_ok, toD, dg, nd_mod hl0, nd_div hd, e]
end Lw.T

end
section

set_option Elab.async false
set_option linter.all false
set_option maxRecDepth 100000
set_option maxHeartbeats 2000000
namespace Lw.T
open PySem PySem.Spec L2 Lw Dg
def plF (p : Nat) : Nat → Nat → List Nat
  | _, 0 => []
  | pl, k + 1 => pl :: plF p (pl * p) k
theorem plF_length (p : Nat) : ∀ (k pl : Nat), (plF p pl k).length = k
  | 0, _ => rfl
  | k + 1, pl => congrArg (· + 1) (plF_length p k _)
def pls (p : Nat) (l : Option Nat) (k : Nat) : List Nat := 1 :: plF p (l.getD 1) (k - 1)
abbrev Cpl : M Bool := cB (fOp2 oLt (rVal (fCallB cLen (aCons (rVar 3) aNil))) (rVar 2))
abbrev Bpl : M Fl := fDrop (fApp 3 (fOp2 oMul (rVal (fOp2 oIx (rVar 3) (rVal (fOp1 oNeg (rVal (fLit (.int 1))))))) (rIf (cB (fOp2 oEq (rVal (fCallB cLen (aCons (rVar 3) aNil))) (rVal (fLit (.int 1))))) (rVar 1) (rVar 0))))
theorem pl_whl {p : Nat} (hp : FitP p) (dl : Dt) (m : Nat) (hm : m < 16777216) (w : Wd) : ∀ (k K : Nat) (acc : List Nat) (pl : Nat), k ≤ K → 1 ≤ acc.length → acc.length + 1 + k = m →
    whl Cpl Bpl (K + 1) [some (.fr (nD p)), some (.fr dl), some (.fr (nD m)), some (.owL (toD (acc ++ [pl])))] w = some (.nx, [some (.fr (nD p)), some (.fr dl), some (.fr (nD m)), some (.owL (toD (acc ++ plF p pl (k + 1))))], w) := by
  intro k
  induction k with
  | zero =>
    intro K acc pl _ _ hl
    refine whl_end ?_
    simp [q_bind, toD_app, toD_one, plF]
    omega
  | succ k ih =>
    intro K acc pl hK h1 hl
    cases K with
    | zero => omega
    | succ K =>
      have hsz : acc.length + 1 < sizeLine := by rw [sizeLine_eq]; omega
      have hmu : mulOk (pl : Int) (p : Int) = true := mulOk_r (by rcases hp with h | h <;> omega)
      have hlt : acc.length + 1 < m := by omega
      have hne : acc ≠ [] := by intro e; rw [e] at h1; simp at h1
      rw [whl_nx (ρ1 := [some (.fr (nD p)), some (.fr dl), some (.fr (nD m)), some (.owL (toD (acc ++ [pl])))]) (w1 := w)
        (ρ2 := [some (.fr (nD p)), some (.fr dl), some (.fr (nD m)), some (.owL (toD ((acc ++ [pl]) ++ [pl * p])))]) (w2 := w) ?_ ?_]
      · rw [ih K (acc ++ [pl]) (pl * p) (by omega) (by simp) (by simp; omega)]
        simp [plF]
      · simp [q_bind, toD_app, toD_one, hlt]
      · simp [q_bind, toD_app, toD_one, isOwL, mApp, hne, nd_mul hmu, hsz]
        rfl
theorem places_ok {p k : Nat} {l : Option Nat} (hp : FitP p) (hl : FitL l) (hk : 1 ≤ k) (hk2 : k < 999999) (hn : l = none → k = 1) (w : Wd) : m_places [nD p, lD l, nD k] w = some (.lst (toD (pls p l k)), w) := by
  have e : fWhile Cpl Bpl [some (.fr (nD p)), some (.fr (lD l)), some (.fr (nD k)), some (.owL [nD 1])] w = some (.nx, [some (.fr (nD p)), some (.fr (lD l)), some (.fr (nD k)), some (.owL (toD (pls p l k)))], w) := by
    by_cases h1 : k = 1
    · subst h1
      rw [show toD (pls p l 1) = [nD 1] from rfl]
      show whl Cpl Bpl (999999 + 1) _ _ = _
      exact whl_end (by simp [q_bind])
    · cases l with
      | none => exact absurd (hn rfl) h1
      | some l =>
        obtain ⟨h2, h200⟩ := hl
        have hlt : 1 < k := by omega
        have hsz : 1 < sizeLine := by rw [sizeLine_eq]; omega
        have hmu : mulOk ((1 : Nat) : Int) (l : Int) = true := mulOk_r (by omega)
        show whl Cpl Bpl (999999 + 1) _ _ = _
        rw [whl_nx (ρ1 := [some (.fr (nD p)), some (.fr (nD l)), some (.fr (nD k)), some (.owL ([] ++ [nD 1]))]) (w1 := w)
          (ρ2 := [some (.fr (nD p)), some (.fr (nD l)), some (.fr (nD k)), some (.owL (toD ([1] ++ [l])))]) (w2 := w) ?_ ?_]
        · have := pl_whl hp (nD l) k (by omega) w (k - 2) 999998 [1] l (by omega) (by simp) (by simp; omega)
          rw [this]
          have : k - 2 + 1 = k - 1 := by omega
          rw [this]; rfl
        · simp [q_bind, hlt, lD]
        · simp [q_bind, toD_app, toD_one, isOwL, mApp, nd_mul hmu, hsz, show oIx (.lst [nD 1]) (.int (-1)) = some (nD 1) from ix_last [] _]
          rfl
  have e' := e
  rw [show nD 1 = .int 1 from rfl] at e'
  simp [m_places, u_run, F_places, env0, q_bind, inLine_ok, e']
theorem toD_zip : ∀ a b : List Nat, toD (List.zipWith (· * ·) a b) = (a.zip b).map fun q => nD (q.1 * q.2)
  | [], _ => rfl
  | _ :: _, [] => rfl
  | x :: a, y :: b => by
    have := toD_zip a b
    unfold toD at this ⊢
    rw [List.zipWith_cons_cons, List.zip_cons_cons, List.map_cons, List.map_cons, this]
theorem zip_mul {fi : M (List Dt)} {ρ : En} {w : Wd} {a b : List Nat} {i j : Nat} (hf : fi ρ w = some (zipL (toD a) (toD b), ρ, w)) (hij : i ≠ j) (hi : i < ρ.length) (hj : j < ρ.length) (hw1 : ρ[i]? = some none) (hw2 : ρ[j]? = some none)
    (hm : ∀ q ∈ a.zip b, mulOk (q.1 : Int) (q.2 : Int) = true) (hl : a.length ≤ 16777216) : nLc (ftT 2 (ftsCons (ftN i) (ftsCons (ftN j) ftsNil))) fi (mRet true) (fOp2 oMul (rVar i) (rVar j)) [i, j] ρ w = some (toD (List.zipWith (· * ·) a b), ρ, w) := by
  have hw : ∀ u v : Option Sl, wipeE ((ρ.set i u).set j v) [i, j] = ρ := fun u v => by
    simp only [wipeE]
    refine List.ext_getElem? fun k => ?_
    by_cases h1 : k = i
    · subst h1
      simp [List.getElem?_set, hi, hj, hw1, hij, Ne.symm hij]
      exact (Option.some.inj ((List.getElem?_eq_getElem hi).symm.trans hw1)).symm
    · by_cases h2 : k = j
      · subst h2
        simp [List.getElem?_set, hi, hj, hw2, h1, Ne.symm h1]
        exact (Option.some.inj ((List.getElem?_eq_getElem hj).symm.trans hw2)).symm
      · simp [List.getElem?_set, Ne.symm h1, Ne.symm h2]
  have hw0 : wipeE ρ [i, j] = ρ := by
    simp only [wipeE]
    refine List.ext_getElem? fun k => ?_
    by_cases h1 : k = i
    · subst h1
      simp [List.getElem?_set, hi, hj, hw1, hij, Ne.symm hij]
      exact (Option.some.inj ((List.getElem?_eq_getElem hi).symm.trans hw1)).symm
    · by_cases h2 : k = j
      · subst h2
        simp [List.getElem?_set, hi, hj, hw2, h1, Ne.symm h1]
        exact (Option.some.inj ((List.getElem?_eq_getElem hj).symm.trans hw2)).symm
      · simp [List.getElem?_set, Ne.symm h1, Ne.symm h2]
  have hz : zipL (toD a) (toD b) = (a.zip b).map fun q => Dt.tup [nD q.1, nD q.2] := by
    unfold zipL toD
    rw [List.zip_map, List.map_map]; rfl
  have hy : (zipL (toD a) (toD b)).map (fun d => match d with | .tup [.int x, .int y] => .int (x * y) | d => d) = toD (List.zipWith (· * ·) a b) := by
    rw [hz, List.map_map, toD_zip]
    rfl
  rw [nLc_map (ρ0 := ρ) (w1 := w) (fun d => match d with | .tup [.int x, .int y] => .int (x * y) | d => d) hf hw0 ?_ ?_, hy]
  · intro d hd
    rw [hz, List.mem_map] at hd
    obtain ⟨q, hq, rfl⟩ := hd
    refine ⟨(ρ.set i (some (.fr (nD q.1)))).set j (some (.fr (nD q.2))), ?_, rfl, ?_, hw _ _⟩
    · simp
    · have m := hm q hq
      simp [q_bind, List.getElem?_set, hi, hj, hij, Ne.symm hij, nd_mul m]
      rfl
  · rw [hz, List.length_map, List.length_zip]; omega
theorem zip_plF (p : Nat) : ∀ (ds : List Nat) (pl : Nat), List.zipWith (· * ·) ds (plF p pl ds.length) = mulFrom p pl ds
  | [], _ => rfl
  | d :: ds, pl => by
    show d * pl :: List.zipWith (· * ·) ds (plF p (pl * p) ds.length) = d * pl :: mulFrom p (pl * p) ds
    rw [zip_plF p ds]
theorem zip_pls (p : Nat) (l : Option Nat) (n : Nat) : List.zipWith (· * ·) (dg p l n) (pls p l (dg p l n).length) = parts p l n := by
  cases l with
  | none => show [n * 1] = [n]; rw [Nat.mul_one]
  | some l =>
    show (n % l * 1) :: List.zipWith (· * ·) (tl p (n / l)) (plF p l (tl p (n / l)).length) = _
    rw [zip_plF, Nat.mul_one]; rfl
theorem tl_length : ∀ (k p r : Nat), r < 2 ^ k → (tl p r).length ≤ k := by
  intro k
  induction k with
  | zero => intro p r h; rw [show r = 0 by simpa using h, tl_zero]; exact Nat.le_refl _
  | succ k ih =>
    intro p r h
    by_cases h0 : r = 0
    · subst h0; rw [tl_zero]; exact Nat.zero_le _
    · by_cases hp : p < 2
      · rw [tl_small (by omega) hp]; exact Nat.succ_le_succ (Nat.zero_le _)
      · rw [tl_step (by omega) (by omega)]
        exact Nat.succ_le_succ (ih p _ (half_lt (by omega) h))
theorem dg_length {k p n : Nat} {l : Option Nat} (h : n < 2 ^ k) (hl : FitL l) : (dg p l n).length ≤ k + 1 := by
  cases l with
  | none => exact Nat.succ_le_succ (Nat.zero_le _)
  | some l => exact Nat.succ_le_succ (tl_length k p _ (Nat.lt_of_le_of_lt (Nat.div_le_self n l) h))
theorem dg_pos (p : Nat) (l : Option Nat) (n : Nat) : 1 ≤ (dg p l n).length := by
  cases l <;> exact Nat.succ_le_succ (Nat.zero_le _)
theorem tl_dig : ∀ (r p : Nat), 2 ≤ p → ∀ d ∈ tl p r, d < p := by
  intro r
  induction r using Nat.strongRecOn with
  | ind r ih =>
    intro p hp d hd
    by_cases h0 : r = 0
    · subst h0; rw [tl_zero] at hd; cases hd
    · rw [tl_step (by omega) hp] at hd
      rcases List.mem_cons.mp hd with e | hd
      · subst e; exact Nat.mod_lt _ (by omega)
      · exact ih _ (Nat.div_lt_self (by omega) (by omega)) p hp d hd
theorem zip_ok {p n : Nat} {l : Option Nat} (hp : FitP p) (hl : FitL l) : ∀ q ∈ (dg p l n).zip (pls p l (dg p l n).length), mulOk (q.1 : Int) (q.2 : Int) = true := by
  intro q hq
  cases l with
  | none =>
    have : q = (n, 1) := by simpa [dg, pls, plF] using hq
    rw [this]; exact mulOk_r (by omega)
  | some l =>
    obtain ⟨h2, h200⟩ := hl
    have hq' : q ∈ (n % l, 1) :: (tl p (n / l)).zip (plF p l (tl p (n / l)).length) := hq
    rcases List.mem_cons.mp hq' with e | hq'
    · rw [e]; exact mulOk_r (by omega)
    · rcases hp with rfl | ⟨hp2, hp13⟩
      · by_cases h0 : n / l = 0
        · rw [h0, tl_zero] at hq'; cases hq'
        · rw [tl_small (Nat.pos_of_ne_zero h0) (by omega)] at hq'
          have : q = (n / l, l) := by simpa [plF] using hq'
          rw [this]; exact mulOk_r (by omega)
      · have := tl_dig _ p hp2 q.1 (List.of_mem_zip hq').1
        exact mulOk_l (by omega)
theorem val_sum : ∀ (r p pl : Nat), (2 ≤ p ∨ p = 0) → (mulFrom p pl (tl p r)).sum = pl * r := by
  intro r
  induction r using Nat.strongRecOn with
  | ind r ih =>
    intro p pl hp
    by_cases h0 : r = 0
    · subst h0; rw [tl_zero]; rfl
    · rcases hp with hp | rfl
      · rw [tl_step (by omega) hp]
        show (r % p * pl :: mulFrom p (pl * p) (tl p (r / p))).sum = _
        rw [List.sum_cons, ih _ (Nat.div_lt_self (by omega) (by omega)) p (pl * p) (.inl hp), Nat.mul_comm (r % p), Nat.mul_assoc, ← Nat.mul_add, Nat.add_comm, Nat.div_add_mod]
      · rw [tl_small (by omega) (by omega)]
        show (r * pl :: []).sum = _
        rw [List.sum_cons, List.sum_nil, Nat.add_zero, Nat.mul_comm]
theorem parts_sum {p n : Nat} {l : Option Nat} (hp : FitP p) : (parts p l n).sum = n := by
  cases l with
  | none => rw [parts_none]; simp
  | some l =>
    rw [parts_some, List.sum_cons, val_sum _ _ _ (by rcases hp with h | h <;> omega), Nat.add_comm, Nat.div_add_mod]
theorem cut_len {p n : Nat} {l : Option Nat} (hl : FitL l) (hn : n < 2 ^ 200) : 1 ≤ (dg p l n).length ∧ (dg p l n).length < 999999 ∧ (l = none → (dg p l n).length = 1) :=
  ⟨dg_pos p l n, by have := dg_length (p := p) hn hl; omega, fun e => by subst e; rfl⟩
theorem of_digits_ok {p n : Nat} {l : Option Nat} (hp : FitP p) (hl : FitL l) (hn : n < 2 ^ 200) (w : Wd) : m_of_digits [nD p, lD l, .tup (toD (dg p l n))] w = some (nD n, w) := by
  obtain ⟨c1, c2, c3⟩ := cut_len (p := p) hl hn
  have hz := zip_mul (i := 4) (j := 3) (fi := iZipD (aCons (fVar 2) (aCons (fCall m_places (aCons (fVar 0) (aCons (fVar 1) (aCons (fCallB cLen (aCons (rVar 2) aNil)) aNil)))) aNil))) (ρ := [some (.fr (nD p)), some (.fr (lD l)), some (.fr (.tup (toD (dg p l n)))), none, none]) (w := w) (a := dg p l n) (b := pls p l (dg p l n).length)
    (by simp [q_bind, places_ok hp hl c1 c2 c3, zipO, seqD]) (by decide) (by simp) (by simp) rfl rfl (zip_ok hp hl) (by omega)
  rw [zip_pls] at hz
  simp [m_of_digits, u_run, F_of_digits, env0, q_bind, hz, -u_lc, parts_sum hp]
end Lw.T

end
section

set_option Elab.async false
set_option linter.all false
set_option maxRecDepth 100000
set_option maxHeartbeats 2000000
namespace Lw.T
open PySem PySem.Spec L2 Lw Dg
/-! the greedy way -/
def gr : List Nat → Int → Int
  | [], r => r
  | d :: ds, r => gr ds (if d = 0 then r else if 0 < r then r - d else r + d)
def Top (s : Nat) : List Nat → Prop
  | [] => True
  | d :: ds => (d = 0 ∨ s + ds.sum < d) ∧ Top s ds
theorem Top.app {s x : Nat} (hx : x = 0 ∨ s < x) : ∀ {ys : List Nat}, Top (s + x) ys → Top s (ys ++ [x])
  | [], _ => ⟨by simpa using hx, trivial⟩
  | y :: ys, h => ⟨by
      have h1 := h.1
      have e : (ys ++ [x]).sum = ys.sum + x := by rw [List.sum_append, List.sum_cons, List.sum_nil]; omega
      show y = 0 ∨ s + (ys ++ [x]).sum < y
      omega, Top.app hx h.2⟩
theorem gr_zero : ∀ {ds : List Nat} {r : Int}, Top 0 ds → (gr ds r = 0 ↔ r ∈ sg ds)
  | [], r, _ => by simp [gr, sg]
  | d :: ds, r, h => by
    obtain ⟨h1, h2⟩ := h
    unfold gr
    by_cases hd : d = 0
    · subst hd
      rw [if_pos rfl, gr_zero h2, mem_sg_zero]
    · rw [if_neg hd, gr_zero h2, mem_sg]
      by_cases hr : 0 < r
      · rw [if_pos hr]
        constructor
        · exact .inl
        · rintro (h | h)
          · exact h
          · have := sg_bound ds _ h; omega
      · rw [if_neg hr]
        constructor
        · exact .inr
        · rintro (h | h)
          · have := sg_bound ds _ h; omega
          · exact h
def Up : Nat → List Nat → Prop
  | _, [] => True
  | s, d :: ds => (d = 0 ∨ s < d) ∧ Up (s + d) ds
theorem Up.top : ∀ {ds : List Nat} {s : Nat}, Up s ds → Top s ds.reverse
  | [], _, _ => trivial
  | d :: ds, s, h => by
    rw [List.reverse_cons]
    exact Top.app h.1 (Up.top h.2)
theorem Up.dropLast : ∀ {ds : List Nat} {s : Nat}, Up s ds → Up s ds.dropLast
  | [], _, _ => trivial
  | [_], _, _ => trivial
  | d :: e :: ds, s, h => ⟨h.1, Up.dropLast h.2⟩
theorem up_mul {p : Nat} (hp : 2 ≤ p) : ∀ (ds : List Nat) (pl s : Nat), (∀ d ∈ ds, d < p) → s < pl → Up s (mulFrom p pl ds)
  | [], _, _, _, _ => trivial
  | d :: ds, pl, s, h, hs => by
    refine ⟨?_, up_mul hp ds _ _ (fun x hx => h x (by simp [hx])) ?_⟩
    · rcases Nat.eq_zero_or_pos d with e | e
      · left; rw [e, Nat.zero_mul]
      · right
        exact Nat.lt_of_lt_of_le hs (Nat.le_mul_of_pos_left pl e)
    · have hd := h d (by simp)
      have : (d + 1) * pl ≤ p * pl := Nat.mul_le_mul_right pl hd
      rw [Nat.add_mul, Nat.one_mul, Nat.mul_comm p] at this
      omega
theorem up_parts {p n : Nat} {l : Option Nat} (hp : FitP p) (hl : FitL l) : Up 0 (parts p l n) := by
  cases l with
  | none => exact ⟨by omega, trivial⟩
  | some l =>
    obtain ⟨h2, h200⟩ := hl
    have hm : n % l < l := Nat.mod_lt _ (by omega)
    rcases hp with rfl | ⟨hp2, _⟩
    · by_cases h0 : n / l = 0
      · rw [parts_one h0]; exact ⟨by omega, trivial⟩
      · rw [parts_zero (by omega) (Nat.pos_of_ne_zero h0)]
        have : 1 * l ≤ n / l * l := Nat.mul_le_mul_right l (Nat.pos_of_ne_zero h0)
        exact ⟨by omega, by omega, trivial⟩
    · rw [parts_some]
      exact ⟨by omega, up_mul hp2 _ _ _ (tl_dig _ p hp2) (by omega)⟩
/-! all sums -/
def fP (f : List Int) (d : Nat) : List Int := if d = 0 then f else f.map (· - (d : Int)) ++ f.map (· + (d : Int))
def fQ (f : List Int) (d : Nat) : List Int := if d = 0 then f else f.map (· + (d : Int)) ++ f.map (· - (d : Int))
theorem fPQ_perm : ∀ (ds : List Nat) (f g : List Int), f.Perm g → (ds.foldl fP f).Perm (ds.foldl fQ g)
  | [], _, _, h => h
  | d :: ds, f, g, h => by
    rw [List.foldl_cons, List.foldl_cons]
    refine fPQ_perm ds _ _ ?_
    unfold fP fQ
    split
    · exact h
    · exact ((h.map _).append (h.map _)).trans List.perm_append_comm
theorem mem_fQ : ∀ (ds : List Nat) (f : List Int) (x : Int), x ∈ ds.foldl fQ f ↔ ∃ y ∈ f, x - y ∈ sg ds
  | [], f, x => by
    rw [List.foldl_nil]
    constructor
    · exact fun h => ⟨x, h, by simp [sg]⟩
    · rintro ⟨y, hy, h⟩
      have : x - y = 0 := by simpa [sg] using h
      rwa [show x = y by omega]
  | d :: ds, f, x => by
    rw [List.foldl_cons, mem_fQ ds]
    by_cases hd : d = 0
    · subst hd
      simp only [fQ, if_pos, mem_sg_zero]
    · simp only [fQ, hd, if_neg, List.mem_append, List.mem_map, not_false_eq_true]
      constructor
      · rintro ⟨_, ⟨z, hz, rfl⟩ | ⟨z, hz, rfl⟩, h⟩
        · exact ⟨z, hz, mem_sg.mpr (.inl (by rwa [Int.sub_sub]))⟩
        · exact ⟨z, hz, mem_sg.mpr (.inr (by rwa [show x - z + (d : Int) = x - (z - d) by omega]))⟩
      · rintro ⟨z, hz, h⟩
        rcases mem_sg.mp h with h | h
        · exact ⟨_, .inl ⟨z, hz, rfl⟩, by rwa [← Int.sub_sub]⟩
        · exact ⟨_, .inr ⟨z, hz, rfl⟩, by rwa [show x - (z - (d : Int)) = x - z + d by omega]⟩
def nz (ds : List Nat) : Nat := (ds.filter (· ≠ 0)).length
theorem fQ_length : ∀ (ds : List Nat) (f : List Int), (ds.foldl fQ f).length = f.length * 2 ^ nz ds
  | [], f => by simp [nz]
  | d :: ds, f => by
    rw [List.foldl_cons, fQ_length ds]
    by_cases hd : d = 0
    · subst hd; simp [fQ, nz]
    · simp only [fQ, hd, if_neg, not_false_eq_true, List.length_append, List.length_map, nz, List.filter_cons, decide_true, if_true, ne_eq, decide_not, decide_false, Bool.not_false, List.length_cons, Nat.pow_succ]
      rw [← Nat.two_mul, Nat.mul_comm 2, Nat.mul_assoc, Nat.mul_comm 2]
theorem fP_length (ds : List Nat) (f : List Int) : (ds.foldl fP f).length = f.length * 2 ^ nz ds := by
  rw [(fPQ_perm ds f f (.refl _)).length_eq, fQ_length]
/-- the support -/
def sup (p : Nat) (l : Option Nat) (n : Nat) : List Int := srtI ((parts p l n).dropLast.foldl fQ [((parts p l n).getLastD 0 : Int)])
theorem sup_P (p : Nat) (l : Option Nat) (n : Nat) : srtI ((parts p l n).dropLast.foldl fP [((parts p l n).getLastD 0 : Int)]) = sup p l n := by
  unfold sup
  exact srt_uniq ((srtI_perm _).trans ((fPQ_perm _ _ _ (.refl _)).trans (srtI_perm _).symm)) (srtI_srt _) (srtI_srt _)
theorem mem_sup {p n : Nat} {l : Option Nat} {x : Int} : x ∈ sup p l n ↔ InS (parts p l n) x := by
  unfold sup InS
  rw [(srtI_perm _).mem_iff, mem_fQ]
  constructor
  · rintro ⟨y, hy, h⟩
    rw [List.mem_singleton] at hy
    rwa [hy] at h
  · exact fun h => ⟨_, List.mem_singleton.mpr rfl, h⟩
theorem sup_pos (p : Nat) (l : Option Nat) (n : Nat) : 1 ≤ (sup p l n).length := by
  unfold sup
  rw [(srtI_perm _).length_eq, fQ_length]
  simp
  exact Nat.one_le_two_pow
end Lw.T

end
section

set_option Elab.async false
set_option linter.all false
set_option maxRecDepth 100000
set_option maxHeartbeats 2000000
namespace Lw.T
open PySem PySem.Spec L2 Lw Dg
theorem parts_cut (p : Nat) (l : Option Nat) (n : Nat) : ∃ q b, parts p l n = q ++ [b] ∧ (parts p l n).dropLast = q ∧ (parts p l n).getLastD 0 = b := by
  obtain ⟨q, b, e⟩ : ∃ q b, parts p l n = q ++ [b] := ⟨_, _, (List.dropLast_concat_getLast (parts_ne p l n)).symm⟩
  exact ⟨q, b, e, by rw [e, List.dropLast_concat], by rw [e, List.getLastD_concat]⟩
abbrev Bsup : M Fl := fIfS (cB (fOp2 oNe (rVar 8) (rVal (fLit (.int 0))))) (fSet 7 (fOp2 oAdd (rVal (mBind (nLc (ftN 9) (iAny (fVar 7)) (mRet true) (fOp2 oSub (rVar 9) (rVar 8)) [9]) fun ds => mRet (.lst ds))) (rVal (mBind (nLc (ftN 9) (iAny (fVar 7)) (mRet true) (fOp2 oAdd (rVar 9) (rVar 8)) [9]) fun ds => mRet (.lst ds))))) fNx
theorem sup_loop (d0 d1 d2 d3 d4 : Dt) (w : Wd) : ∀ (q : List Nat) (f : List Int) (o : Option Sl), f.length * 2 ^ nz q ≤ 16777216 → ∃ o', loopD (ftN 8) Bsup (toD q) [some (.fr d0), some (.fr d1), some (.fr d2), some (.fr d3), some (.fr d4), none, none, some (.fr (.lst (iD f))), o, none] w
    = some (.nx, [some (.fr d0), some (.fr d1), some (.fr d2), some (.fr d3), some (.fr d4), none, none, some (.fr (.lst (iD (q.foldl fP f)))), o', none], w)
  | [], f, o, _ => ⟨o, rfl⟩
  | x :: q, f, o, h => by
    by_cases hx : x = 0
    · subst hx
      obtain ⟨o', e⟩ := sup_loop d0 d1 d2 d3 d4 w q f (some (.fr (nD 0))) (by
        have : nz (0 :: q) = nz q := rfl
        rwa [this] at h)
      refine ⟨o', ?_⟩
      have h1 : toD (0 :: q) = nD 0 :: toD q := rfl
      rw [h1, loop_nx (ρ1 := [some (.fr d0), some (.fr d1), some (.fr d2), some (.fr d3), some (.fr d4), none, none, some (.fr (.lst (iD f))), some (.fr (nD 0)), none]) rfl (by simp [q_bind]; exact ⟨rfl, rfl⟩), e]
      rfl
    · have hn : nz (x :: q) = nz q + 1 := by simp [nz, hx]
      have h2 : 1 ≤ 2 ^ nz q := Nat.one_le_two_pow
      have hlen : f.length + f.length ≤ 16777216 := by
        rw [hn, Nat.pow_succ, Nat.mul_comm (2 ^ nz q), ← Nat.mul_assoc] at h
        have : f.length * 2 * 1 ≤ f.length * 2 * 2 ^ nz q := Nat.mul_le_mul_left _ h2
        omega
      obtain ⟨o', e⟩ := sup_loop d0 d1 d2 d3 d4 w q (fP f x) (some (.fr (nD x))) (by
        have hl : (fP f x).length = f.length * 2 := by simp only [fP, hx, if_neg, not_false_eq_true, List.length_append, List.length_map]; omega
        rw [hl, Nat.mul_assoc, Nat.mul_comm 2, ← Nat.pow_succ]; rw [hn] at h; exact h)
      refine ⟨o', ?_⟩
      have h1 : toD (x :: q) = nD x :: toD q := rfl
      have c1 := lc_ints (fi := iAny (fVar 7)) (fe := fOp2 oSub (rVar 9) (rVar 8)) (ρ := [some (.fr d0), some (.fr d1), some (.fr d2), some (.fr d3), some (.fr d4), none, none, some (.fr (.lst (iD f))), some (.fr (nD x)), none]) (w := w) (i := 9) f (· - (x : Int)) (by simp [q_bind]) rfl (fun n _ => by simp [q_bind]) (by omega)
      have c2 := lc_ints (fi := iAny (fVar 7)) (fe := fOp2 oAdd (rVar 9) (rVar 8)) (ρ := [some (.fr d0), some (.fr d1), some (.fr d2), some (.fr d3), some (.fr d4), none, none, some (.fr (.lst (iD f))), some (.fr (nD x)), none]) (w := w) (i := 9) f (· + (x : Int)) (by simp [q_bind]) rfl (fun n _ => by simp [q_bind]) (by omega)
      have hadd := add_ints (a := f.map (· - (x : Int))) (b := f.map (· + (x : Int))) (by simpa using hlen)
      rw [h1, loop_nx (ρ1 := [some (.fr d0), some (.fr d1), some (.fr d2), some (.fr d3), some (.fr d4), none, none, some (.fr (.lst (iD f))), some (.fr (nD x)), none]) rfl (by simp [q_bind, hx, -u_lc, c1, c2, hadd]; exact ⟨rfl, rfl⟩)]
      have hf : fP f x = f.map (· - (x : Int)) ++ f.map (· + (x : Int)) := by simp only [fP, hx, if_neg, not_false_eq_true]
      rw [hf] at e
      rw [List.foldl_cons, hf]
      exact e
theorem parts_lc {p n : Nat} {l : Option Nat} (hp : FitP p) (hl : FitL l) (hn : n < 2 ^ 200) (w : Wd) (rest : List (Option Sl)) (d2 : Dt) :
    nLc (ftT 2 (ftsCons (ftN 6) (ftsCons (ftN 5) ftsNil))) (iZipD (aCons (fVar 3) (aCons (fCall m_places (aCons (fVar 0) (aCons (fVar 1) (aCons (fCallB cLen (aCons (rVar 3) aNil)) aNil)))) aNil))) (mRet true) (fOp2 oMul (rVar 6) (rVar 5)) [6, 5]
      ([some (.fr (nD p)), some (.fr (lD l)), some (.fr d2), some (.fr (.tup (toD (dg p l n)))), none, none, none] ++ rest) w = some (toD (parts p l n), [some (.fr (nD p)), some (.fr (lD l)), some (.fr d2), some (.fr (.tup (toD (dg p l n)))), none, none, none] ++ rest, w) := by
  obtain ⟨c1, c2, c3⟩ := cut_len (p := p) hl hn
  have hz := zip_mul (i := 6) (j := 5) (fi := iZipD (aCons (fVar 3) (aCons (fCall m_places (aCons (fVar 0) (aCons (fVar 1) (aCons (fCallB cLen (aCons (rVar 3) aNil)) aNil)))) aNil))) (ρ := [some (.fr (nD p)), some (.fr (lD l)), some (.fr d2), some (.fr (.tup (toD (dg p l n)))), none, none, none] ++ rest) (w := w) (a := dg p l n) (b := pls p l (dg p l n).length)
    (by simp [q_bind, places_ok hp hl c1 c2 c3, zipO, seqD]) (by decide) (by simp) (by simp) rfl rfl (zip_ok hp hl) (by omega)
  rw [zip_pls] at hz
  exact hz
theorem support_ok {p n : Nat} {l : Option Nat} (hp : FitP p) (hl : FitL l) (hn : n < 2 ^ 200) (hz : nz (parts p l n).dropLast ≤ 24) (w : Wd) : m_support [nD p, lD l, nD n] w = some (.tup (iD (sup p l n)), w) := by
  obtain ⟨q, b, e1, e2, e3⟩ := parts_cut p l n
  have hlc := parts_lc hp hl hn w [none, none, none] (nD n)
  rw [e1] at hlc
  simp only [List.cons_append, List.nil_append] at hlc
  rw [e2] at hz
  have h24 : (1 : Nat) * 2 ^ nz q ≤ 16777216 := by
    rw [Nat.one_mul]
    exact Nat.le_trans (Nat.pow_le_pow_right (by decide) hz) (by decide)
  obtain ⟨o', e⟩ := sup_loop (nD p) (lD l) (nD n) (.tup (toD (dg p l n))) (.lst (toD (q ++ [b]))) w q [(b : Int)] none h24
  have hs : oSl none (some (-1)) (.lst (toD (q ++ [b]))) = some (.lst (toD q)) := by
    rw [sl_last, toD_app, toD_one, List.dropLast_concat]
  have hsup := sup_P p l n
  rw [e2, e3] at hsup
  have e0 : [nD b] = iD [(b : Int)] := rfl
  simp [m_support, u_run, F_support, env0, q_bind, digits_ok hp hl hn, hlc, -u_lc, inLine_ok, asI, hs, e0, e, hsup]
abbrev Bho : M Fl := fIfS (cB (fOp2 oNe (rVar 9) (rVal (fLit (.int 0))))) (fSet 8 (fIf (cB (fOp2 oGt (rVar 8) (rVal (fLit (.int 0))))) (fOp2 oSub (rVar 8) (rVar 9)) (fOp2 oAdd (rVar 8) (rVar 9)))) fNx
theorem ho_loop (d0 d1 d2 d3 d4 d5 : Dt) (w : Wd) : ∀ (q : List Nat) (r : Int) (o : Option Sl), ∃ o', loopD (ftN 9) Bho (toD q) [some (.fr d0), some (.fr d1), some (.fr d2), some (.fr d3), some (.fr d4), some (.fr d5), none, none, some (.fr (.int r)), o] w
    = some (.nx, [some (.fr d0), some (.fr d1), some (.fr d2), some (.fr d3), some (.fr d4), some (.fr d5), none, none, some (.fr (.int (gr q r))), o'], w)
  | [], r, o => ⟨o, rfl⟩
  | x :: q, r, o => by
    obtain ⟨o', e⟩ := ho_loop d0 d1 d2 d3 d4 d5 w q (if x = 0 then r else if 0 < r then r - x else r + x) (some (.fr (nD x)))
    refine ⟨o', ?_⟩
    have h1 : toD (x :: q) = nD x :: toD q := rfl
    rw [h1, loop_nx (ρ1 := [some (.fr d0), some (.fr d1), some (.fr d2), some (.fr d3), some (.fr d4), some (.fr d5), none, none, some (.fr (.int r)), some (.fr (nD x))])
      (ρ2 := [some (.fr d0), some (.fr d1), some (.fr d2), some (.fr d3), some (.fr d4), some (.fr d5), none, none, some (.fr (.int (if x = 0 then r else if 0 < r then r - x else r + x))), some (.fr (nD x))]) (w2 := w) rfl ?_, e]
    · rfl
    · by_cases hx : x = 0
      · subst hx
        simp [q_bind]
      · by_cases hr : 0 < r
        · simp [q_bind, hx, hr, oGt]
        · simp [q_bind, hx, hr, oGt]
theorem parts_lc2 {p n : Nat} {l : Option Nat} (hp : FitP p) (hl : FitL l) (hn : n < 2 ^ 200) (w : Wd) (d2 d3 : Dt) :
    nLc (ftT 2 (ftsCons (ftN 7) (ftsCons (ftN 6) ftsNil))) (iZipD (aCons (fVar 4) (aCons (fCall m_places (aCons (fVar 0) (aCons (fVar 1) (aCons (fCallB cLen (aCons (rVar 4) aNil)) aNil)))) aNil))) (mRet true) (fOp2 oMul (rVar 7) (rVar 6)) [7, 6]
      [some (.fr (nD p)), some (.fr (lD l)), some (.fr d2), some (.fr d3), some (.fr (.tup (toD (dg p l n)))), none, none, none, none, none] w = some (toD (parts p l n), [some (.fr (nD p)), some (.fr (lD l)), some (.fr d2), some (.fr d3), some (.fr (.tup (toD (dg p l n)))), none, none, none, none, none], w) := by
  obtain ⟨c1, c2, c3⟩ := cut_len (p := p) hl hn
  have hz := zip_mul (i := 7) (j := 6) (fi := iZipD (aCons (fVar 4) (aCons (fCall m_places (aCons (fVar 0) (aCons (fVar 1) (aCons (fCallB cLen (aCons (rVar 4) aNil)) aNil)))) aNil))) (ρ := [some (.fr (nD p)), some (.fr (lD l)), some (.fr d2), some (.fr d3), some (.fr (.tup (toD (dg p l n)))), none, none, none, none, none]) (w := w) (a := dg p l n) (b := pls p l (dg p l n).length)
    (by simp [q_bind, places_ok hp hl c1 c2 c3, zipO, seqD]) (by decide) (by simp) (by simp) rfl rfl (zip_ok hp hl) (by omega)
  rw [zip_pls] at hz
  exact hz
theorem holds_ok {p r : Nat} {k : Int} {l : Option Nat} (hp : FitP p) (hl : FitL l) (hn : r + 1 < 2 ^ 200) (w : Wd) : m_holds [nD p, lD l, .int k, nD r] w = some (.bl (decide (k + 1 ∈ sup p l (r + 1))), w) := by
  obtain ⟨q, b, e1, e2, e3⟩ := parts_cut p l (r + 1)
  have hlc := parts_lc2 hp hl hn w (.int k) (nD r)
  rw [e1] at hlc
  obtain ⟨o', e⟩ := ho_loop (nD p) (lD l) (.int k) (nD r) (.tup (toD (dg p l (r + 1)))) (.lst (toD (q ++ [b]))) w q.reverse (k + 1 - (b : Int)) none
  have hs : oSl none (some (-1)) (.lst (toD (q ++ [b]))) = some (.lst (toD q)) := by
    rw [sl_last, toD_app, toD_one, List.dropLast_concat]
  have hrev : (toD q).reverse = toD q.reverse := by unfold toD; rw [List.map_reverse]
  have hg : (gr q.reverse (k + 1 - (b : Int)) = 0) ↔ k + 1 ∈ sup p l (r + 1) := by
    have hu := (up_parts hp hl (n := r + 1)).dropLast
    rw [gr_zero (by rw [e2] at hu; exact hu.top), sg_perm (List.reverse_perm q), mem_sup, InS, e2, e3]
  have h1 : oAdd (nD r) (.int 1) = some (nD (r + 1)) := rfl
  have hd : decide (gr q.reverse (k + 1 - (b : Int)) = 0) = decide (k + 1 ∈ sup p l (r + 1)) := by simp only [hg]
  simp [m_holds, u_run, F_holds, env0, q_bind, h1, digits_ok hp hl hn, hlc, -u_lc, inLine_ok, asI, hs, asL, hrev, e, hd]
end Lw.T

end
section

set_option Elab.async false
set_option linter.all false
set_option maxRecDepth 100000
set_option maxHeartbeats 2000000
namespace Lw.T
open PySem PySem.Spec L2 Lw Dg
def late (N P : Nat) : Nat := 2 * (N / P + 1) * P - N
theorem up_lt {N P : Nat} (hP : 0 < P) : N < (N / P + 1) * P := by
  have h1 := Nat.div_add_mod N P
  have h2 := Nat.mod_lt N hP
  rw [Nat.add_mul, Nat.one_mul, Nat.mul_comm]
  omega
theorem late_eq {N P : Nat} (hP : 0 < P) : late N P + N = 2 * ((N / P + 1) * P) := by
  have := up_lt (N := N) hP
  unfold late
  rw [Nat.mul_assoc]; omega
theorem late_gt {N P : Nat} (hP : 0 < P) : N < late N P := by
  have h1 := up_lt (N := N) hP
  have h2 := late_eq (N := N) hP
  omega
theorem up_le {N P M : Nat} (h : N < P * M) : (N / P + 1) * P ≤ P * M := by
  have : N / P < M := Nat.div_lt_of_lt_mul h
  have h2 : P * (N / P + 1) ≤ P * M := Nat.mul_le_mul_left P this
  rwa [Nat.mul_comm] at h2
theorem late_le {N P : Nat} : late N P ≤ 2 * (N + P) := by
  unfold late
  have h1 : N / P * P ≤ N := Nat.div_mul_le_self N P
  have h2 : 2 * (N / P + 1) * P = 2 * (N / P * P + P) := by rw [Nat.mul_assoc, Nat.add_mul, Nat.one_mul]
  omega
/-- the first place that does not divide -/
def First (p l N i : Nat) : Prop := (∀ j, j < i → N % (l * p ^ j) = 0) ∧ N % (l * p ^ i) ≠ 0
theorem first_is {p l N : Nat} (hp : 2 ≤ p) (hl : 2 ≤ l) (hN : 0 < N) : ∃ i, First p l N i := by
  have step : ∀ n, (∃ i, First p l N i) ∨ ∀ j, j < n → N % (l * p ^ j) = 0 := by
    intro n
    induction n with
    | zero => exact .inr fun j h => absurd h (by omega)
    | succ n ih =>
      rcases ih with h | h
      · exact .inl h
      · by_cases c : N % (l * p ^ n) = 0
        · refine .inr fun j hj => ?_
          by_cases e : j = n
          · rw [e]; exact c
          · exact h j (by omega)
        · exact .inl ⟨n, h, c⟩
  rcases step (N + 1) with h | h
  · exact h
  · exfalso
    have h1 := h N (by omega)
    have h2 : N < p ^ N := Nat.lt_pow_self (by omega)
    have h3 : p ^ N ≤ l * p ^ N := Nat.le_mul_of_pos_left _ (by omega)
    rw [Nat.mod_eq_of_lt (by omega)] at h1
    omega
theorem first_small {p l N i : Nat} (hp : 2 ≤ p) (hp13 : p ≤ 13) (hl : 2 ≤ l) (hl2 : l ≤ 200) (hN : 0 < N) (hN2 : N ≤ 412) (h : First p l N i) : i ≤ 10 ∧ l * p ^ i ≤ 5356 := by
  cases i with
  | zero => rw [Nat.pow_zero]; omega
  | succ i =>
    have h1 := h.1 i (by omega)
    have h2 : l * p ^ i ≤ N := Nat.le_of_dvd hN (Nat.dvd_of_mod_eq_zero h1)
    have h3 : 2 ^ i ≤ p ^ i := Nat.pow_le_pow_left hp i
    have h4 : 2 * p ^ i ≤ l * p ^ i := Nat.mul_le_mul_right _ hl
    refine ⟨?_, ?_⟩
    · by_cases c : i + 1 ≤ 10
      · exact c
      · have h5 : 2 ^ 10 ≤ 2 ^ i := Nat.pow_le_pow_right (by decide) (by omega)
        omega
    · rw [Nat.pow_succ, ← Nat.mul_assoc]
      have : l * p ^ i * p ≤ 412 * 13 := Nat.mul_le_mul (by omega) hp13
      omega
/-- a multiple of any later place that does not divide is no sooner -/
theorem first_dvd {p l N i j : Nat} (h : First p l N i) (hj : N % (l * p ^ j) ≠ 0) : ∃ c, l * p ^ j = l * p ^ i * c := by
  have : i ≤ j := by
    by_cases c : i ≤ j
    · exact c
    · exact absurd (h.1 j (by omega)) hj
  exact ⟨p ^ (j - i), by rw [Nat.mul_assoc, ← Nat.pow_add, Nat.add_sub_cancel' this]⟩
theorem late_min {p l N i j : Nat} (hp : 2 ≤ p) (hl : 2 ≤ l) (h : First p l N i) (hj : N % (l * p ^ j) ≠ 0) : late N (l * p ^ i) ≤ late N (l * p ^ j) := by
  have pos : ∀ k, 0 < l * p ^ k := fun k => Nat.mul_pos (by omega) (Nat.pow_pos (by omega))
  obtain ⟨c, e⟩ := first_dvd h hj
  have h1 := late_eq (N := N) (pos i)
  have h2 := late_eq (N := N) (pos j)
  have h3 := up_lt (N := N) (pos j)
  have h4 : (N / (l * p ^ i) + 1) * (l * p ^ i) ≤ l * p ^ i * (c * (N / (l * p ^ j) + 1)) := up_le (by
    rw [← Nat.mul_assoc, ← e, Nat.mul_comm]; exact h3)
  rw [← Nat.mul_assoc (l * p ^ i) c, ← e, Nat.mul_comm (l * p ^ j)] at h4
  omega
theorem sup_late {p l N i : Nat} (hp : 2 ≤ p) (hl : 2 ≤ l) (h : First p l N i) : (N : Int) ∈ sup p (some l) (late N (l * p ^ i)) := by
  rw [mem_sup, mem_of_inS hp _ _ _ hl]
  exact Mem.there hp i l N hl h.1 h.2
theorem sup_least {p l N i R : Nat} (hp : 2 ≤ p) (hl : 2 ≤ l) (h : First p l N i) (hR : N < R) (hm : (N : Int) ∈ sup p (some l) R) : late N (l * p ^ i) ≤ R := by
  rw [mem_sup, mem_of_inS hp _ _ _ hl] at hm
  obtain ⟨j, k, a, b, c⟩ := Mem.least hp hm hl (by omega)
  have pos : ∀ k, 0 < l * p ^ k := fun k => Nat.mul_pos (by omega) (Nat.pow_pos (by omega))
  have pj := pos j
  have hk : 0 ≤ k := by
    by_cases c : 0 ≤ k
    · exact c
    · have : ((l * p ^ j : Nat) : Int) * k ≤ ((l * p ^ j : Nat) : Int) * 0 := Int.mul_le_mul_of_nonneg_left (by omega) (by omega)
      omega
  obtain ⟨m, rfl⟩ := Int.eq_ofNat_of_zero_le hk
  have hj : N % (l * p ^ j) ≠ 0 := by
    intro z
    obtain ⟨t, ht⟩ := Nat.dvd_of_mod_eq_zero z
    have e : (N : Int) = ((l * p ^ j : Nat) : Int) * t := by rw [← Int.natCast_mul, ← ht]
    rw [e] at a b
    have a' := Int.lt_of_mul_lt_mul_left a (by omega)
    have b' := Int.lt_of_mul_lt_mul_left b (by omega)
    omega
  have h1 := late_min hp hl h hj
  have h2 := late_eq (N := N) pj
  have h3 : (N / (l * p ^ j) + 1) * (l * p ^ j) ≤ l * p ^ j * m := up_le (by
    rw [← Int.natCast_mul] at b; omega)
  rw [← Int.natCast_mul] at c
  omega
theorem zero_late {l N : Nat} (hl : 2 ≤ l) (h : N % l ≠ 0) : (N : Int) ∈ sup 0 (some l) (late N l) := by
  have h1 := Nat.div_add_mod N l
  have h2 := Nat.mod_lt N (show 0 < l by omega)
  have eR : late N l = l * (N / l + 1) + (l - N % l) := by
    have e := late_eq (N := N) (P := l) (by omega)
    have e2 : (N / l + 1) * l = l * (N / l) + l := by rw [Nat.add_mul, Nat.one_mul, Nat.mul_comm]
    rw [Nat.mul_add, Nat.mul_one]
    omega
  have hd : l - N % l < l := by omega
  have q1 : late N l / l = N / l + 1 := by
    rw [eR, Nat.mul_add_div (by omega), Nat.div_eq_of_lt hd]
  have q2 : late N l % l = l - N % l := by
    rw [eR, Nat.mul_add_mod, Nat.mod_eq_of_lt hd]
  rw [mem_sup, parts_zero (by omega) (by rw [q1]; exact Nat.succ_pos _), q1, q2]
  unfold InS
  show (N : Int) - (((N / l + 1) * l : Nat) : Int) ∈ sg [l - N % l]
  rw [mem_sg]
  right
  have : (N / l + 1) * l = l * (N / l) + l := by rw [Nat.add_mul, Nat.one_mul, Nat.mul_comm]
  have e0 : (N : Int) - (((N / l + 1) * l : Nat) : Int) + ((l - N % l : Nat) : Int) = 0 := by omega
  rw [e0]; simp [sg]
theorem zero_least {l N R : Nat} (hl : 2 ≤ l) (hR : N < R) (hm : (N : Int) ∈ sup 0 (some l) R) : N % l ≠ 0 ∧ R = late N l := by
  rw [mem_sup] at hm
  by_cases h0 : R / l = 0
  · rw [parts_one h0, inS_one] at hm
    have := Nat.div_add_mod R l
    rw [h0, Nat.mul_zero] at this
    omega
  · rw [parts_zero (by omega) (Nat.pos_of_ne_zero h0)] at hm
    have hm' : (N : Int) - ((R / l * l : Nat) : Int) ∈ sg [R % l] := hm
    have h1 := Nat.div_add_mod R l
    have h2 := Nat.mod_lt R (show 0 < l by omega)
    rw [Nat.mul_comm] at h1
    rcases mem_sg.mp hm' with z | z
    · have : (N : Int) - ((R / l * l : Nat) : Int) - ((R % l : Nat) : Int) = 0 := by simpa [sg] using z
      omega
    · have z : (N : Int) - ((R / l * l : Nat) : Int) + ((R % l : Nat) : Int) = 0 := by simpa [sg] using z
      obtain ⟨q, hq⟩ : ∃ q, R / l = q + 1 := ⟨R / l - 1, by have := Nat.pos_of_ne_zero h0; omega⟩
      have e2 : (q + 1) * l = l * q + l := by rw [Nat.add_mul, Nat.one_mul, Nat.mul_comm]
      rw [hq, e2] at z h1
      have hN : N = l * q + (l - R % l) := by omega
      have hd : l - R % l < l := by omega
      have q1 : N / l = q := by rw [hN, Nat.mul_add_div (by omega), Nat.div_eq_of_lt hd]; rfl
      have q2 : N % l = l - R % l := by rw [hN, Nat.mul_add_mod, Nat.mod_eq_of_lt hd]
      refine ⟨by omega, ?_⟩
      have e := late_eq (N := N) (P := l) (by omega)
      rw [q1, e2] at e
      omega
theorem none_least {p N R : Nat} (hm : (N : Int) ∈ sup p none R) : N = R := by
  rw [mem_sup, parts_none, inS_one] at hm
  omega
end Lw.T

end
section

set_option Elab.async false
set_option linter.all false
set_option maxRecDepth 100000
set_option maxHeartbeats 2000000
namespace Lw.T
open PySem PySem.Spec L2 Lw Dg
abbrev Cno : M Bool := cB (fOp2 oEq (rVal (fOp2 oMod (rVar 3) (rVar 4))) (rVal (fLit (.int 0))))
abbrev Bno : M Fl := fSeq (fIfS (cB (fOp2 oEq (rVar 0) (rVal (fLit (.int 0))))) (fRet (fLit .non)) fNx) (fSet 4 (fOp2 oMul (rVar 4) (rVar 0)))
theorem no_whl {p l N i : Nat} (hp : 2 ≤ p) (hp13 : p ≤ 13) (hl : 2 ≤ l) (h : First p l N i) (d1 d2 : Dt) (w : Wd) : ∀ (d j K : Nat), j + d = i → d ≤ K → whl Cno Bno (K + 1) [some (.fr (nD p)), some (.fr d1), some (.fr d2), some (.fr (nD N)), some (.fr (nD (l * p ^ j)))] w
    = some (.nx, [some (.fr (nD p)), some (.fr d1), some (.fr d2), some (.fr (nD N)), some (.fr (nD (l * p ^ i)))], w) := by
  have pos : ∀ k, l * p ^ k ≠ 0 := fun k => Nat.pos_iff_ne_zero.mp (Nat.mul_pos (by omega) (Nat.pow_pos (by omega)))
  intro d
  induction d with
  | zero =>
    intro j K hj _
    have : j = i := by omega
    subst this
    refine whl_end ?_
    have hm := nd_mod (a := N) (pos j)
    have h2 := h.2
    simp [q_bind, hm, h2]
  | succ d ih =>
    intro j K hj hK
    cases K with
    | zero => omega
    | succ K =>
      have hm := nd_mod (a := N) (pos j)
      have h1 := h.1 j (by omega)
      have hp0 : p ≠ 0 := by omega
      have hmu : mulOk ((l * p ^ j : Nat) : Int) (p : Int) = true := mulOk_r (by omega)
      have hpl : l * p ^ j * p = l * p ^ (j + 1) := by rw [Nat.pow_succ, Nat.mul_assoc]
      rw [whl_nx (ρ1 := [some (.fr (nD p)), some (.fr d1), some (.fr d2), some (.fr (nD N)), some (.fr (nD (l * p ^ j)))]) (w1 := w)
        (ρ2 := [some (.fr (nD p)), some (.fr d1), some (.fr d2), some (.fr (nD N)), some (.fr (nD (l * p ^ (j + 1))))]) (w2 := w) ?_ ?_]
      · exact ih (j + 1) K (by omega) (by omega)
      · simp [q_bind, hm, h1]
      · simp [q_bind, hp0, nd_mul hmu, hpl]
theorem late_val {N P : Nat} (hP : 0 < P) : 2 * ((N / P : Nat) + 1 : Int) * (P : Int) - (N : Int) - 1 = ((late N P - 1 : Nat) : Int) := by
  have h1 := late_eq (N := N) hP
  have h2 := late_gt (N := N) hP
  have e : 2 * ((N / P : Nat) + 1 : Int) * (P : Int) = ((2 * ((N / P + 1) * P) : Nat) : Int) := by
    rw [Int.mul_assoc]; simp
  rw [e]; omega
theorem late_dt {N P : Nat} (hP : 0 < P) : Dt.int (2 * ((N / P : Nat) + 1 : Int) * (P : Int) - (N : Int) - 1) = nD (late N P - 1) := by
  rw [late_val hP]; rfl
theorem next_none {p k : Nat} (w : Wd) : m_next_over [nD p, .non, nD k] w = some (.non, w) := by
  simp [m_next_over, u_run, F_next_over, env0, q_bind, oIs]
theorem first_size {p l N i : Nat} (hp : 2 ≤ p) (hp13 : p ≤ 13) (hl : 2 ≤ l) (hl2 : l ≤ 200) (hN : 0 < N) (hN2 : N < 2 ^ 140) (h : First p l N i) : i ≤ 140 ∧ l * p ^ i ≤ 13 * N + 200 := by
  cases i with
  | zero => rw [Nat.pow_zero]; omega
  | succ i =>
    have h1 := h.1 i (by omega)
    have h2 : l * p ^ i ≤ N := Nat.le_of_dvd hN (Nat.dvd_of_mod_eq_zero h1)
    have h3 : 2 ^ i ≤ p ^ i := Nat.pow_le_pow_left hp i
    have h4 : 2 * p ^ i ≤ l * p ^ i := Nat.mul_le_mul_right _ hl
    refine ⟨?_, ?_⟩
    · by_cases c : i + 1 ≤ 140
      · exact c
      · have h5 : 2 ^ 140 ≤ 2 ^ i := Nat.pow_le_pow_right (by decide) (by omega)
        omega
    · rw [Nat.pow_succ, ← Nat.mul_assoc]
      have : l * p ^ i * p ≤ N * 13 := Nat.mul_le_mul h2 hp13
      omega
theorem log_lt {a k : Nat} (h : a < 2 ^ k) (hk : 0 < k) : a.log2 < k := by
  by_cases c : a = 0
  · subst c; simpa using hk
  · exact (Nat.log2_lt c).mpr h
theorem mulOk_big {a b : Nat} (ha : a < 2 ^ 200) (hb : b < 2 ^ 200) : mulOk (a : Int) (b : Int) = true := by
  have h1 := log_lt ha (by decide)
  have h2 := log_lt hb (by decide)
  unfold mulOk
  have : decide (((a : Int)).natAbs.log2 + ((b : Int)).natAbs.log2 < 1000000) = true := by
    apply decide_eq_true
    rw [Int.natAbs_natCast, Int.natAbs_natCast]; omega
  rw [this]; simp
theorem divOk_big {b : Nat} (h0 : 0 < b) (hb : b < 2 ^ 200) : divOk (b : Int) = true := by
  have h1 := log_lt hb (by decide)
  unfold divOk
  rw [Int.natAbs_natCast, decide_eq_true (show b.log2 < 9000 by omega), decide_eq_true (show (b : Int) ≠ 0 by omega)]; rfl
section
variable {N P : Nat} (hN : N < 2 ^ 160) (hP : 0 < P) (hP2 : P < 2 ^ 160)
include hN hP hP2
theorem la_div : oDiv (nD N) (nD P) = some (nD (N / P)) := nd_div (divOk_big hP (Nat.lt_of_lt_of_le hP2 (Nat.pow_le_pow_right (by decide) (by decide))))
theorem la_mul1 : oMul (.int 2) (.int ((N / P : Nat) + 1)) = some (.int (2 * ((N / P : Nat) + 1))) := by
  have : mulOk 2 (((N / P : Nat) : Int) + 1) = true := mulOk_l (i := 2) (by decide)
  simp only [oMul, this, if_true]
theorem la_mul2 : oMul (.int (2 * ((N / P : Nat) + 1))) (nD P) = some (.int (2 * ((N / P : Nat) + 1) * (P : Int))) := by
  have h1 : N / P ≤ N := Nat.div_le_self N P
  have h2 : 2 * (2 ^ 160 + 1) < 2 ^ 200 := by decide
  have h3 : 2 ^ 160 < 2 ^ 200 := by decide
  have : mulOk (2 * (((N / P : Nat) : Int) + 1)) (P : Int) = true := mulOk_big (a := 2 * (N / P + 1)) (by omega) (by omega)
  simp only [oMul, nD, this, if_true]
end
theorem next_zero {l k : Nat} (hl : 2 ≤ l) (hl2 : l ≤ 200) (hk : k + 1 < 2 ^ 140) (w : Wd) : m_next_over [nD 0, nD l, nD k] w = some (if (k + 1) % l = 0 then .non else nD (late (k + 1) l - 1), w) := by
  have hm := nd_mod (a := k + 1) (b := l) (by omega)
  have hN : k + 1 < 2 ^ 160 := Nat.lt_of_lt_of_le hk (Nat.pow_le_pow_right (by decide) (by decide))
  have hP2 : l < 2 ^ 160 := Nat.lt_of_le_of_lt hl2 (by decide)
  have hd := la_div hN (show 0 < l by omega) hP2
  have h1 : oAdd (nD k) (.int 1) = some (nD (k + 1)) := rfl
  by_cases h : (k + 1) % l = 0
  · have e : fWhile Cno Bno [some (.fr (nD 0)), some (.fr (nD l)), some (.fr (nD k)), some (.fr (nD (k + 1))), some (.fr (nD l))] w = some (.rt .non, [some (.fr (nD 0)), some (.fr (nD l)), some (.fr (nD k)), some (.fr (nD (k + 1))), some (.fr (nD l))], w) := by
      show whl Cno Bno (999999 + 1) _ _ = _
      refine whl_rt (ρ1 := [some (.fr (nD 0)), some (.fr (nD l)), some (.fr (nD k)), some (.fr (nD (k + 1))), some (.fr (nD l))]) (w1 := w) ?_ ?_
      · simp [q_bind, hm, h]
      · simp [q_bind]
    simp [m_next_over, u_run, F_next_over, env0, q_bind, oIs, h1, e, h]
  · have e : fWhile Cno Bno [some (.fr (nD 0)), some (.fr (nD l)), some (.fr (nD k)), some (.fr (nD (k + 1))), some (.fr (nD l))] w = some (.nx, [some (.fr (nD 0)), some (.fr (nD l)), some (.fr (nD k)), some (.fr (nD (k + 1))), some (.fr (nD l))], w) := by
      show whl Cno Bno (999999 + 1) _ _ = _
      refine whl_end ?_
      simp [q_bind, hm, h]
    have m1 := la_mul1 hN (show 0 < l by omega) hP2
    have m2 := la_mul2 hN (show 0 < l by omega) hP2
    have m3 : oAdd (nD ((k + 1) / l)) (.int 1) = some (.int (((k + 1) / l : Nat) + 1)) := rfl
    have m4 := late_dt (N := k + 1) (P := l) (by omega)
    simp only [m_next_over, u_run, F_next_over, env0]
    simp [q_bind, oIs, h1, e, h, hd, m1, m2, m3, -Int.natCast_ediv, -Int.natCast_add]
    exact m4
theorem next_first {p l k i : Nat} (hp : 2 ≤ p) (hp13 : p ≤ 13) (hl : 2 ≤ l) (hl2 : l ≤ 200) (hk : k + 1 < 2 ^ 140) (hf : First p l (k + 1) i) (w : Wd) : m_next_over [nD p, nD l, nD k] w = some (nD (late (k + 1) (l * p ^ i) - 1), w) := by
  obtain ⟨s1, s2⟩ := first_size hp hp13 hl hl2 (by omega) hk hf
  have pos : 0 < l * p ^ i := Nat.mul_pos (by omega) (Nat.pow_pos (by omega))
  have h1 : oAdd (nD k) (.int 1) = some (nD (k + 1)) := rfl
  have e := no_whl hp hp13 hl hf (nD l) (nD k) w i 0 999999 (by omega) (by omega)
  rw [Nat.pow_zero, Nat.mul_one] at e
  have e : fWhile Cno Bno [some (.fr (nD p)), some (.fr (nD l)), some (.fr (nD k)), some (.fr (nD (k + 1))), some (.fr (nD l))] w = _ := e
  generalize l * p ^ i = P at *
  have h150 : 13 * 2 ^ 140 + 200 < 2 ^ 160 := by decide
  have hN : k + 1 < 2 ^ 160 := by omega
  have hP2 : P < 2 ^ 160 := by omega
  have hd := la_div hN pos hP2
  have m1 := la_mul1 hN pos hP2
  have m2 := la_mul2 hN pos hP2
  have m3 : oAdd (nD ((k + 1) / P)) (.int 1) = some (.int (((k + 1) / P : Nat) + 1)) := rfl
  have m4 := late_dt (N := k + 1) (P := P) pos
  simp only [m_next_over, u_run, F_next_over, env0]
  simp [q_bind, oIs, h1, e, hd, m1, m2, m3, -Int.natCast_ediv, -Int.natCast_add]
  exact m4
end Lw.T

end
section

set_option Elab.async false
set_option linter.all false
set_option maxRecDepth 100000
set_option maxHeartbeats 2000000
namespace Lw.T
open PySem PySem.Spec L2 Lw Dg
def oD : Option Nat → Dt
  | some r => nD r
  | none => .non
theorem near_all {p k : Nat} {l : Option Nat} (hp : FitP p) (hl : FitL l) (hk : k + 1 < 2 ^ 140) : ∃ o : Option Nat, (∀ w, m_next_over [nD p, lD l, nD k] w = some (oD o, w)) ∧ (∀ R, k + 1 < R → ((k + 1 : Nat) : Int) ∈ sup p l R → ∃ r, o = some r ∧ r + 1 ≤ R) := by
  cases l with
  | none => exact ⟨none, next_none, fun R h1 h2 => (by have := none_least h2; omega)⟩
  | some l =>
    obtain ⟨h2, h200⟩ := hl
    rcases hp with rfl | ⟨hp2, hp13⟩
    · by_cases hm : (k + 1) % l = 0
      · refine ⟨none, fun w => ?_, fun R h1 h3 => absurd hm (zero_least h2 h1 h3).1⟩
        have := next_zero (k := k) h2 h200 hk w
        rwa [if_pos hm] at this
      · have hg := late_gt (N := k + 1) (P := l) (by omega)
        refine ⟨some (late (k + 1) l - 1), fun w => ?_, fun R h1 h3 => ⟨_, rfl, by rw [(zero_least h2 h1 h3).2]; omega⟩⟩
        have := next_zero (k := k) h2 h200 hk w
        rwa [if_neg hm] at this
    · obtain ⟨i, hf⟩ := first_is hp2 h2 (show 0 < k + 1 by omega)
      have hg := late_gt (N := k + 1) (P := l * p ^ i) (Nat.mul_pos (by omega) (Nat.pow_pos (by omega)))
      exact ⟨some (late (k + 1) (l * p ^ i) - 1), next_first hp2 hp13 h2 h200 hk hf, fun R h1 h3 => ⟨_, rfl, by have := sup_least hp2 h2 hf h1 h3; omega⟩⟩
theorem mem_pos {p : Nat} (hp : 2 ≤ p) : ∀ {l R : Nat} {N : Int}, Mem p l R N → 2 ≤ l → 1 ≤ R → 1 ≤ N := by
  intro l R N m
  induction m with
  | top h => intro _ h; omega
  | @add l R x h m ih =>
    intro hl hR
    have h1 : 1 ≤ R / l := Nat.div_pos h (by omega)
    have hx := ih hp h1
    have : (l : Int) * 1 ≤ l * x := Int.mul_le_mul_of_nonneg_left hx (by omega)
    omega
  | @sub l R x h m ih =>
    intro hl hR
    have h1 : 1 ≤ R / l := Nat.div_pos h (by omega)
    have hx := ih hp h1
    have : (l : Int) * 1 ≤ l * x := Int.mul_le_mul_of_nonneg_left hx (by omega)
    have h2 := Nat.mod_lt R (show 0 < l by omega)
    omega
theorem sup_pos1 {p n : Nat} {l : Option Nat} (hp : FitP p) (hl : FitL l) (hn : 1 ≤ n) {x : Int} (hx : x ∈ sup p l n) : 1 ≤ x := by
  rw [mem_sup] at hx
  cases l with
  | none => rw [parts_none, inS_one] at hx; omega
  | some l =>
    obtain ⟨h2, _⟩ := hl
    rcases hp with rfl | ⟨hp2, _⟩
    · by_cases h0 : n / l = 0
      · rw [parts_one h0, inS_one] at hx
        have := Nat.div_add_mod n l
        rw [h0, Nat.mul_zero] at this
        omega
      · rw [parts_zero (by omega) (Nat.pos_of_ne_zero h0)] at hx
        have hx' : x - ((n / l * l : Nat) : Int) ∈ sg [n % l] := hx
        have h1 : 1 * l ≤ n / l * l := Nat.mul_le_mul_right l (Nat.pos_of_ne_zero h0)
        have h3 := Nat.mod_lt n (show 0 < l by omega)
        rcases mem_sg.mp hx' with z | z
        · have : x - ((n / l * l : Nat) : Int) - ((n % l : Nat) : Int) = 0 := by simpa [sg] using z
          omega
        · have : x - ((n / l * l : Nat) : Int) + ((n % l : Nat) : Int) = 0 := by simpa [sg] using z
          omega
    · rw [mem_of_inS hp2 _ _ _ h2] at hx
      exact mem_pos hp2 hx h2 hn
theorem nz_parts' (p n : Nat) (l : Option Nat) : nz (parts p l n) ≤ nz (dg p l n) := by
  have nzc : ∀ (d : Nat) (ds : List Nat), nz (d :: ds) = (if d = 0 then 0 else 1) + nz ds := fun d ds => by
    unfold nz
    by_cases h : d = 0
    · simp [h]
    · simp [h]; omega
  have go : ∀ (ds : List Nat) (pl : Nat), nz (mulFrom p pl ds) ≤ nz ds := by
    intro ds
    induction ds with
    | nil => intro _; exact Nat.le_refl _
    | cons d ds ih =>
      intro pl
      have := ih (pl * p)
      show nz (d * pl :: mulFrom p (pl * p) ds) ≤ _
      rw [nzc, nzc]
      by_cases h : d = 0
      · subst h
        rw [Nat.zero_mul]; omega
      · rw [if_neg h]
        split <;> omega
  cases l with
  | none => exact Nat.le_refl _
  | some l =>
    rw [parts_some]
    show nz (n % l :: mulFrom p l (tl p (n / l))) ≤ nz (n % l :: tl p (n / l))
    have := go (tl p (n / l)) l
    rw [nzc, nzc]; omega
theorem nz_own {p n : Nat} {l : Option Nat} (h : nz (dg p l n) < 10) : nz (parts p l n).dropLast ≤ 24 := by
  have h1 := nz_parts' p n l
  have h2 : nz (parts p l n).dropLast ≤ nz (parts p l n) := by
    unfold nz
    exact (List.Sublist.filter _ (List.dropLast_sublist _)).length_le
  omega
end Lw.T

end
section

set_option Elab.async false
set_option linter.all false
set_option maxRecDepth 100000
set_option maxHeartbeats 4000000
namespace Lw.T
open PySem PySem.Spec L2 Lw Dg
def lensOf (p : Nat) : List (Option Nat) := match p with
  | 0 => [none, some 2, some 3]
  | 2 => [some 2, some 3]
  | 3 => [some 2, some 3]
  | 5 => [some 2, some 3, some 5]
  | 7 => [some 2, some 3, some 4, some 7]
  | 11 => [some 2, some 3, some 5, some 6, some 11]
  | 13 => [some 2, some 3, some 6, some 7, some 13]
  | _ => []
/-- a number of a field -/
def WorthD (d : Dt) : Prop := (∃ i, d = .int i) ∨ ∃ i j, d = .tup [.int i, .int j]
def LenIs (p : Nat) (d : Dt) : Prop := ∃ l : Option Nat, FitL l ∧ ((∀ x, l = some x → x ≤ 14 ∧ (p = 0 → x ≤ 3)) ∧ l ∈ lensOf p ∧ WorthD d) ∧ (∀ w, m_length [nD p, d] w = some (lD l, w)) ∧ (∀ w, m_l_length [nD p, d] w = some (lD l, w))
theorem len_2 : ∀ n : Nat, n < 2 → LenIs 2 (nD n)
  | 0, _ => ⟨some 2, ⟨by decide, by decide⟩, ⟨fun x h => (by cases h; decide), by decide, by first | exact .inl ⟨_, rfl⟩ | exact .inr ⟨_, _, rfl⟩⟩, fun w => by kernel_rfl, fun w => by kernel_rfl⟩
  | 1, _ => ⟨some 3, ⟨by decide, by decide⟩, ⟨fun x h => (by cases h; decide), by decide, by first | exact .inl ⟨_, rfl⟩ | exact .inr ⟨_, _, rfl⟩⟩, fun w => by kernel_rfl, fun w => by kernel_rfl⟩
  | n + 2, h => absurd h (by omega)
theorem len_3 : ∀ n : Nat, n < 3 → LenIs 3 (nD n)
  | 0, _ => ⟨some 2, ⟨by decide, by decide⟩, ⟨fun x h => (by cases h; decide), by decide, by first | exact .inl ⟨_, rfl⟩ | exact .inr ⟨_, _, rfl⟩⟩, fun w => by kernel_rfl, fun w => by kernel_rfl⟩
  | 1, _ => ⟨some 3, ⟨by decide, by decide⟩, ⟨fun x h => (by cases h; decide), by decide, by first | exact .inl ⟨_, rfl⟩ | exact .inr ⟨_, _, rfl⟩⟩, fun w => by kernel_rfl, fun w => by kernel_rfl⟩
  | 2, _ => ⟨some 3, ⟨by decide, by decide⟩, ⟨fun x h => (by cases h; decide), by decide, by first | exact .inl ⟨_, rfl⟩ | exact .inr ⟨_, _, rfl⟩⟩, fun w => by kernel_rfl, fun w => by kernel_rfl⟩
  | n + 3, h => absurd h (by omega)
theorem len_5 : ∀ n : Nat, n < 5 → LenIs 5 (nD n)
  | 0, _ => ⟨some 2, ⟨by decide, by decide⟩, ⟨fun x h => (by cases h; decide), by decide, by first | exact .inl ⟨_, rfl⟩ | exact .inr ⟨_, _, rfl⟩⟩, fun w => by kernel_rfl, fun w => by kernel_rfl⟩
  | 1, _ => ⟨some 3, ⟨by decide, by decide⟩, ⟨fun x h => (by cases h; decide), by decide, by first | exact .inl ⟨_, rfl⟩ | exact .inr ⟨_, _, rfl⟩⟩, fun w => by kernel_rfl, fun w => by kernel_rfl⟩
  | 2, _ => ⟨some 5, ⟨by decide, by decide⟩, ⟨fun x h => (by cases h; decide), by decide, by first | exact .inl ⟨_, rfl⟩ | exact .inr ⟨_, _, rfl⟩⟩, fun w => by kernel_rfl, fun w => by kernel_rfl⟩
  | 3, _ => ⟨some 5, ⟨by decide, by decide⟩, ⟨fun x h => (by cases h; decide), by decide, by first | exact .inl ⟨_, rfl⟩ | exact .inr ⟨_, _, rfl⟩⟩, fun w => by kernel_rfl, fun w => by kernel_rfl⟩
  | 4, _ => ⟨some 3, ⟨by decide, by decide⟩, ⟨fun x h => (by cases h; decide), by decide, by first | exact .inl ⟨_, rfl⟩ | exact .inr ⟨_, _, rfl⟩⟩, fun w => by kernel_rfl, fun w => by kernel_rfl⟩
  | n + 5, h => absurd h (by omega)
theorem len_7 : ∀ n : Nat, n < 7 → LenIs 7 (nD n)
  | 0, _ => ⟨some 2, ⟨by decide, by decide⟩, ⟨fun x h => (by cases h; decide), by decide, by first | exact .inl ⟨_, rfl⟩ | exact .inr ⟨_, _, rfl⟩⟩, fun w => by kernel_rfl, fun w => by kernel_rfl⟩
  | 1, _ => ⟨some 3, ⟨by decide, by decide⟩, ⟨fun x h => (by cases h; decide), by decide, by first | exact .inl ⟨_, rfl⟩ | exact .inr ⟨_, _, rfl⟩⟩, fun w => by kernel_rfl, fun w => by kernel_rfl⟩
  | 2, _ => ⟨some 7, ⟨by decide, by decide⟩, ⟨fun x h => (by cases h; decide), by decide, by first | exact .inl ⟨_, rfl⟩ | exact .inr ⟨_, _, rfl⟩⟩, fun w => by kernel_rfl, fun w => by kernel_rfl⟩
  | 3, _ => ⟨some 4, ⟨by decide, by decide⟩, ⟨fun x h => (by cases h; decide), by decide, by first | exact .inl ⟨_, rfl⟩ | exact .inr ⟨_, _, rfl⟩⟩, fun w => by kernel_rfl, fun w => by kernel_rfl⟩
  | 4, _ => ⟨some 4, ⟨by decide, by decide⟩, ⟨fun x h => (by cases h; decide), by decide, by first | exact .inl ⟨_, rfl⟩ | exact .inr ⟨_, _, rfl⟩⟩, fun w => by kernel_rfl, fun w => by kernel_rfl⟩
  | 5, _ => ⟨some 7, ⟨by decide, by decide⟩, ⟨fun x h => (by cases h; decide), by decide, by first | exact .inl ⟨_, rfl⟩ | exact .inr ⟨_, _, rfl⟩⟩, fun w => by kernel_rfl, fun w => by kernel_rfl⟩
  | 6, _ => ⟨some 3, ⟨by decide, by decide⟩, ⟨fun x h => (by cases h; decide), by decide, by first | exact .inl ⟨_, rfl⟩ | exact .inr ⟨_, _, rfl⟩⟩, fun w => by kernel_rfl, fun w => by kernel_rfl⟩
  | n + 7, h => absurd h (by omega)
theorem len_11 : ∀ n : Nat, n < 11 → LenIs 11 (nD n)
  | 0, _ => ⟨some 2, ⟨by decide, by decide⟩, ⟨fun x h => (by cases h; decide), by decide, by first | exact .inl ⟨_, rfl⟩ | exact .inr ⟨_, _, rfl⟩⟩, fun w => by kernel_rfl, fun w => by kernel_rfl⟩
  | 1, _ => ⟨some 3, ⟨by decide, by decide⟩, ⟨fun x h => (by cases h; decide), by decide, by first | exact .inl ⟨_, rfl⟩ | exact .inr ⟨_, _, rfl⟩⟩, fun w => by kernel_rfl, fun w => by kernel_rfl⟩
  | 2, _ => ⟨some 11, ⟨by decide, by decide⟩, ⟨fun x h => (by cases h; decide), by decide, by first | exact .inl ⟨_, rfl⟩ | exact .inr ⟨_, _, rfl⟩⟩, fun w => by kernel_rfl, fun w => by kernel_rfl⟩
  | 3, _ => ⟨some 5, ⟨by decide, by decide⟩, ⟨fun x h => (by cases h; decide), by decide, by first | exact .inl ⟨_, rfl⟩ | exact .inr ⟨_, _, rfl⟩⟩, fun w => by kernel_rfl, fun w => by kernel_rfl⟩
  | 4, _ => ⟨some 5, ⟨by decide, by decide⟩, ⟨fun x h => (by cases h; decide), by decide, by first | exact .inl ⟨_, rfl⟩ | exact .inr ⟨_, _, rfl⟩⟩, fun w => by kernel_rfl, fun w => by kernel_rfl⟩
  | 5, _ => ⟨some 6, ⟨by decide, by decide⟩, ⟨fun x h => (by cases h; decide), by decide, by first | exact .inl ⟨_, rfl⟩ | exact .inr ⟨_, _, rfl⟩⟩, fun w => by kernel_rfl, fun w => by kernel_rfl⟩
  | 6, _ => ⟨some 6, ⟨by decide, by decide⟩, ⟨fun x h => (by cases h; decide), by decide, by first | exact .inl ⟨_, rfl⟩ | exact .inr ⟨_, _, rfl⟩⟩, fun w => by kernel_rfl, fun w => by kernel_rfl⟩
  | 7, _ => ⟨some 5, ⟨by decide, by decide⟩, ⟨fun x h => (by cases h; decide), by decide, by first | exact .inl ⟨_, rfl⟩ | exact .inr ⟨_, _, rfl⟩⟩, fun w => by kernel_rfl, fun w => by kernel_rfl⟩
  | 8, _ => ⟨some 5, ⟨by decide, by decide⟩, ⟨fun x h => (by cases h; decide), by decide, by first | exact .inl ⟨_, rfl⟩ | exact .inr ⟨_, _, rfl⟩⟩, fun w => by kernel_rfl, fun w => by kernel_rfl⟩
  | 9, _ => ⟨some 11, ⟨by decide, by decide⟩, ⟨fun x h => (by cases h; decide), by decide, by first | exact .inl ⟨_, rfl⟩ | exact .inr ⟨_, _, rfl⟩⟩, fun w => by kernel_rfl, fun w => by kernel_rfl⟩
  | 10, _ => ⟨some 3, ⟨by decide, by decide⟩, ⟨fun x h => (by cases h; decide), by decide, by first | exact .inl ⟨_, rfl⟩ | exact .inr ⟨_, _, rfl⟩⟩, fun w => by kernel_rfl, fun w => by kernel_rfl⟩
  | n + 11, h => absurd h (by omega)
theorem len_13 : ∀ n : Nat, n < 13 → LenIs 13 (nD n)
  | 0, _ => ⟨some 2, ⟨by decide, by decide⟩, ⟨fun x h => (by cases h; decide), by decide, by first | exact .inl ⟨_, rfl⟩ | exact .inr ⟨_, _, rfl⟩⟩, fun w => by kernel_rfl, fun w => by kernel_rfl⟩
  | 1, _ => ⟨some 3, ⟨by decide, by decide⟩, ⟨fun x h => (by cases h; decide), by decide, by first | exact .inl ⟨_, rfl⟩ | exact .inr ⟨_, _, rfl⟩⟩, fun w => by kernel_rfl, fun w => by kernel_rfl⟩
  | 2, _ => ⟨some 13, ⟨by decide, by decide⟩, ⟨fun x h => (by cases h; decide), by decide, by first | exact .inl ⟨_, rfl⟩ | exact .inr ⟨_, _, rfl⟩⟩, fun w => by kernel_rfl, fun w => by kernel_rfl⟩
  | 3, _ => ⟨some 7, ⟨by decide, by decide⟩, ⟨fun x h => (by cases h; decide), by decide, by first | exact .inl ⟨_, rfl⟩ | exact .inr ⟨_, _, rfl⟩⟩, fun w => by kernel_rfl, fun w => by kernel_rfl⟩
  | 4, _ => ⟨some 6, ⟨by decide, by decide⟩, ⟨fun x h => (by cases h; decide), by decide, by first | exact .inl ⟨_, rfl⟩ | exact .inr ⟨_, _, rfl⟩⟩, fun w => by kernel_rfl, fun w => by kernel_rfl⟩
  | 5, _ => ⟨some 7, ⟨by decide, by decide⟩, ⟨fun x h => (by cases h; decide), by decide, by first | exact .inl ⟨_, rfl⟩ | exact .inr ⟨_, _, rfl⟩⟩, fun w => by kernel_rfl, fun w => by kernel_rfl⟩
  | 6, _ => ⟨some 7, ⟨by decide, by decide⟩, ⟨fun x h => (by cases h; decide), by decide, by first | exact .inl ⟨_, rfl⟩ | exact .inr ⟨_, _, rfl⟩⟩, fun w => by kernel_rfl, fun w => by kernel_rfl⟩
  | 7, _ => ⟨some 7, ⟨by decide, by decide⟩, ⟨fun x h => (by cases h; decide), by decide, by first | exact .inl ⟨_, rfl⟩ | exact .inr ⟨_, _, rfl⟩⟩, fun w => by kernel_rfl, fun w => by kernel_rfl⟩
  | 8, _ => ⟨some 7, ⟨by decide, by decide⟩, ⟨fun x h => (by cases h; decide), by decide, by first | exact .inl ⟨_, rfl⟩ | exact .inr ⟨_, _, rfl⟩⟩, fun w => by kernel_rfl, fun w => by kernel_rfl⟩
  | 9, _ => ⟨some 6, ⟨by decide, by decide⟩, ⟨fun x h => (by cases h; decide), by decide, by first | exact .inl ⟨_, rfl⟩ | exact .inr ⟨_, _, rfl⟩⟩, fun w => by kernel_rfl, fun w => by kernel_rfl⟩
  | 10, _ => ⟨some 7, ⟨by decide, by decide⟩, ⟨fun x h => (by cases h; decide), by decide, by first | exact .inl ⟨_, rfl⟩ | exact .inr ⟨_, _, rfl⟩⟩, fun w => by kernel_rfl, fun w => by kernel_rfl⟩
  | 11, _ => ⟨some 13, ⟨by decide, by decide⟩, ⟨fun x h => (by cases h; decide), by decide, by first | exact .inl ⟨_, rfl⟩ | exact .inr ⟨_, _, rfl⟩⟩, fun w => by kernel_rfl, fun w => by kernel_rfl⟩
  | 12, _ => ⟨some 3, ⟨by decide, by decide⟩, ⟨fun x h => (by cases h; decide), by decide, by first | exact .inl ⟨_, rfl⟩ | exact .inr ⟨_, _, rfl⟩⟩, fun w => by kernel_rfl, fun w => by kernel_rfl⟩
  | n + 13, h => absurd h (by omega)
theorem len0_m2_1 : LenIs 0 (.tup [.int (-2), .int 1]) := ⟨none, trivial, ⟨fun x h => (by cases h), by decide, by first | exact .inl ⟨_, rfl⟩ | exact .inr ⟨_, _, rfl⟩⟩, fun w => by kernel_rfl, fun w => by kernel_rfl⟩
theorem len0_m1_1 : LenIs 0 (.tup [.int (-1), .int 1]) := ⟨some 3, ⟨by decide, by decide⟩, ⟨fun x h => (by cases h; decide), by decide, by first | exact .inl ⟨_, rfl⟩ | exact .inr ⟨_, _, rfl⟩⟩, fun w => by kernel_rfl, fun w => by kernel_rfl⟩
theorem len0_m1_2 : LenIs 0 (.tup [.int (-1), .int 2]) := ⟨none, trivial, ⟨fun x h => (by cases h), by decide, by first | exact .inl ⟨_, rfl⟩ | exact .inr ⟨_, _, rfl⟩⟩, fun w => by kernel_rfl, fun w => by kernel_rfl⟩
theorem len0_0_1 : LenIs 0 (.tup [.int (0), .int 1]) := ⟨some 2, ⟨by decide, by decide⟩, ⟨fun x h => (by cases h; decide), by decide, by first | exact .inl ⟨_, rfl⟩ | exact .inr ⟨_, _, rfl⟩⟩, fun w => by kernel_rfl, fun w => by kernel_rfl⟩
theorem len0_1_2 : LenIs 0 (.tup [.int (1), .int 2]) := ⟨none, trivial, ⟨fun x h => (by cases h), by decide, by first | exact .inl ⟨_, rfl⟩ | exact .inr ⟨_, _, rfl⟩⟩, fun w => by kernel_rfl, fun w => by kernel_rfl⟩
theorem len0_1_1 : LenIs 0 (.tup [.int (1), .int 1]) := ⟨some 3, ⟨by decide, by decide⟩, ⟨fun x h => (by cases h; decide), by decide, by first | exact .inl ⟨_, rfl⟩ | exact .inr ⟨_, _, rfl⟩⟩, fun w => by kernel_rfl, fun w => by kernel_rfl⟩
theorem len0_3_2 : LenIs 0 (.tup [.int (3), .int 2]) := ⟨none, trivial, ⟨fun x h => (by cases h), by decide, by first | exact .inl ⟨_, rfl⟩ | exact .inr ⟨_, _, rfl⟩⟩, fun w => by kernel_rfl, fun w => by kernel_rfl⟩
theorem len0_2_1 : LenIs 0 (.tup [.int (2), .int 1]) := ⟨none, trivial, ⟨fun x h => (by cases h), by decide, by first | exact .inl ⟨_, rfl⟩ | exact .inr ⟨_, _, rfl⟩⟩, fun w => by kernel_rfl, fun w => by kernel_rfl⟩
theorem len0_3_1 : LenIs 0 (.tup [.int (3), .int 1]) := ⟨none, trivial, ⟨fun x h => (by cases h), by decide, by first | exact .inl ⟨_, rfl⟩ | exact .inr ⟨_, _, rfl⟩⟩, fun w => by kernel_rfl, fun w => by kernel_rfl⟩
end Lw.T

end
section

set_option Elab.async false
set_option linter.all false
set_option maxRecDepth 100000
set_option maxHeartbeats 4000000
namespace Lw.T
open PySem PySem.Spec L2 Lw Dg
theorem draw_p {s : Sc} (g : Good s) : ∃ p s', m_l_draw_field [.src] (some s) = some (nD p, some s') ∧ (p = 0 ∨ p = 2 ∨ p = 3 ∨ p = 5 ∨ p = 7 ∨ p = 11 ∨ p = 13) ∧ Good s' := by
  obtain ⟨v, s', e, h0, h5, g'⟩ := pick_ok (most := 10) (by decide) (by decide) g
  obtain ⟨n, rfl⟩ := Int.eq_ofNat_of_zero_le h0
  have hix : ∃ p, oIx (.lst [.int 2, .int 3, .int 5, .int 7, .int 2, .int 3, .int 11, .int 13, .int 0, .int 5]) (.int (n : Int)) = some (nD p) ∧ (p = 0 ∨ p = 2 ∨ p = 3 ∨ p = 5 ∨ p = 7 ∨ p = 11 ∨ p = 13) := by
    rw [ix_nat]
    match n, (show n < 10 by omega) with
    | 0, _ => exact ⟨2, rfl, by decide⟩
    | 1, _ => exact ⟨3, rfl, by decide⟩
    | 2, _ => exact ⟨5, rfl, by decide⟩
    | 3, _ => exact ⟨7, rfl, by decide⟩
    | 4, _ => exact ⟨2, rfl, by decide⟩
    | 5, _ => exact ⟨3, rfl, by decide⟩
    | 6, _ => exact ⟨11, rfl, by decide⟩
    | 7, _ => exact ⟨13, rfl, by decide⟩
    | 8, _ => exact ⟨0, rfl, by decide⟩
    | 9, _ => exact ⟨5, rfl, by decide⟩
  obtain ⟨p, hx, hp⟩ := hix
  refine ⟨p, s', ?_, hp, g'⟩
  simp [m_l_draw_field, u_run, F_l_draw_field, env0, q_bind, inLine_ok, e, hx]
theorem fitP_of {p : Nat} (h : p = 0 ∨ p = 2 ∨ p = 3 ∨ p = 5 ∨ p = 7 ∨ p = 11 ∨ p = 13) : FitP p := by
  unfold FitP; omega
def FrIs (u e : Int) : Prop := ∃ d, (∀ w, m_l_fraction [.int u, .int e] w = some (d, w)) ∧ LenIs 0 d
theorem fr_is : ∀ a b : Nat, a < 7 → b < 4 → ∃ u e : Int, oIx (.lst [.int 0, .int 1, .int (-1), .int 2, .int (-2), .int 3, .int 1]) (.int (a : Int)) = some (.int u) ∧ oIx (.lst [.int 1, .int 1, .int 1, .int 2]) (.int (b : Int)) = some (.int e) ∧ FrIs u e := by
  intro a b ha hb
  rw [ix_nat, ix_nat]
  have hb' : ∃ e : Int, ([.int 1, .int 1, .int 1, .int 2] : List Dt)[b]? = some (.int e) ∧ (e = 1 ∨ e = 2) := by
    match b, hb with
    | 0, _ => exact ⟨1, rfl, .inl rfl⟩
    | 1, _ => exact ⟨1, rfl, .inl rfl⟩
    | 2, _ => exact ⟨1, rfl, .inl rfl⟩
    | 3, _ => exact ⟨2, rfl, .inr rfl⟩
  obtain ⟨e, he, hee⟩ := hb'
  have go : ∀ u : Int, FrIs u 1 → FrIs u 2 → FrIs u e := fun u h1 h2 => by
    rcases hee with rfl | rfl
    · exact h1
    · exact h2
  match a, ha with
  | 0, _ => exact ⟨0, e, rfl, he, go 0 ⟨_, fun w => by kernel_rfl, len0_0_1⟩ ⟨_, fun w => by kernel_rfl, len0_0_1⟩⟩
  | 1, _ => exact ⟨1, e, rfl, he, go 1 ⟨_, fun w => by kernel_rfl, len0_1_1⟩ ⟨_, fun w => by kernel_rfl, len0_1_2⟩⟩
  | 2, _ => exact ⟨-1, e, rfl, he, go (-1) ⟨_, fun w => by kernel_rfl, len0_m1_1⟩ ⟨_, fun w => by kernel_rfl, len0_m1_2⟩⟩
  | 3, _ => exact ⟨2, e, rfl, he, go 2 ⟨_, fun w => by kernel_rfl, len0_2_1⟩ ⟨_, fun w => by kernel_rfl, len0_1_1⟩⟩
  | 4, _ => exact ⟨-2, e, rfl, he, go (-2) ⟨_, fun w => by kernel_rfl, len0_m2_1⟩ ⟨_, fun w => by kernel_rfl, len0_m1_1⟩⟩
  | 5, _ => exact ⟨3, e, rfl, he, go 3 ⟨_, fun w => by kernel_rfl, len0_3_1⟩ ⟨_, fun w => by kernel_rfl, len0_3_2⟩⟩
  | 6, _ => exact ⟨1, e, rfl, he, go 1 ⟨_, fun w => by kernel_rfl, len0_1_1⟩ ⟨_, fun w => by kernel_rfl, len0_1_2⟩⟩
theorem draw_d {p : Nat} (hp : p = 0 ∨ p = 2 ∨ p = 3 ∨ p = 5 ∨ p = 7 ∨ p = 11 ∨ p = 13) {s : Sc} (g : Good s) : ∃ d s', m_l_draw_worth [.src, nD p] (some s) = some (d, some s') ∧ LenIs p d ∧ Good s' := by
  by_cases h0 : p = 0
  · subst h0
    obtain ⟨v, s1, e1, a0, a7, g1⟩ := pick_ok (most := 7) (by decide) (by decide) g
    obtain ⟨a, rfl⟩ := Int.eq_ofNat_of_zero_le a0
    obtain ⟨u, s2, e2, b0, b4, g2⟩ := pick_ok (most := 4) (by decide) (by decide) g1
    obtain ⟨b, rfl⟩ := Int.eq_ofNat_of_zero_le b0
    obtain ⟨x, y, h1, h2, d, h3, h4⟩ := fr_is a b (by omega) (by omega)
    refine ⟨d, s2, ?_, h4, g2⟩
    simp [m_l_draw_worth, u_run, F_l_draw_worth, env0, q_bind, inLine_ok, e1, e2, h1, h2, h3]
  · obtain ⟨v, s1, e1, a0, a1, g1⟩ := pick_ok (most := (p : Int)) (by omega) (by rcases hp with h | h | h | h | h | h | h <;> subst h <;> first | exact absurd rfl h0 | decide) g
    obtain ⟨n, rfl⟩ := Int.eq_ofNat_of_zero_le a0
    have hn : n < p := by omega
    have e1 : m_l_pick [.src, nD p] (some s) = some (nD n, some s1) := e1
    have hpos : 0 < p := by omega
    refine ⟨nD n, s1, ?_, ?_, g1⟩
    · simp [m_l_draw_worth, u_run, F_l_draw_worth, env0, q_bind, hpos, e1]
    · rcases hp with h | h | h | h | h | h | h
      · exact absurd h h0
      · subst h; exact len_2 n hn
      · subst h; exact len_3 n hn
      · subst h; exact len_5 n hn
      · subst h; exact len_7 n hn
      · subst h; exact len_11 n hn
      · subst h; exact len_13 n hn
end Lw.T

end
section

set_option Elab.async false
set_option linter.all false
set_option maxRecDepth 100000
set_option maxHeartbeats 2000000
namespace Lw.T
open PySem PySem.Spec L2 Lw Dg
/-! the law's parts -/
def nextPl (p : Nat) (l : Option Nat) (k pl : Nat) : Nat := pl * (if k = 0 ∧ l ≠ none then l.getD 1 else max p 1)
def lawF (p : Nat) (l : Option Nat) : Nat → Nat → List Nat → List Nat
  | _, _, [] => []
  | k, pl, d :: ds => d * pl :: lawF p l (k + 1) (nextPl p l k pl) ds
def okF (p : Nat) (l : Option Nat) : Nat → Nat → List Nat → Prop
  | _, _, [] => True
  | k, pl, d :: ds => mulOk (d : Int) (pl : Int) = true ∧ okF p l (k + 1) (nextPl p l k pl) ds
theorem lawF_mul {p : Nat} {l : Option Nat} (hp : 2 ≤ p) : ∀ (ds : List Nat) (k pl : Nat), lawF p l (k + 1) pl ds = mulFrom p pl ds
  | [], _, _ => rfl
  | d :: ds, k, pl => by
    have e : nextPl p l (k + 1) pl = pl * p := by unfold nextPl; rw [if_neg (by omega), Nat.max_eq_left (by omega)]
    show d * pl :: lawF p l (k + 2) (nextPl p l (k + 1) pl) ds = d * pl :: mulFrom p (pl * p) ds
    rw [e, lawF_mul hp ds]
theorem okF_mul {p : Nat} {l : Option Nat} (hp : 2 ≤ p) : ∀ (ds : List Nat) (k pl : Nat), (∀ d ∈ ds, d < 2 ^ 64) → okF p l k pl ds
  | [], _, _, _ => trivial
  | d :: ds, k, pl, h => ⟨mulOk_l (h d (by simp)), okF_mul hp ds _ _ fun x hx => h x (by simp [hx])⟩
theorem lawF_parts {p n : Nat} {l : Option Nat} (hp : FitP p) (hl : FitL l) : lawF p l 0 1 (dg p l n) = parts p l n := by
  cases l with
  | none => show [n * 1] = [n]; rw [Nat.mul_one]
  | some l =>
    have e : nextPl p (some l) 0 1 = l := by unfold nextPl; simp
    show (n % l * 1) :: lawF p (some l) 1 (nextPl p (some l) 0 1) (tl p (n / l)) = _
    rw [e, Nat.mul_one, parts_some]
    rcases hp with rfl | ⟨hp2, _⟩
    · by_cases h0 : n / l = 0
      · rw [h0, tl_zero]; rfl
      · rw [tl_small (Nat.pos_of_ne_zero h0) (by omega)]; rfl
    · rw [lawF_mul hp2]
theorem okF_dg {p n : Nat} {l : Option Nat} (hp : FitP p) (hl : FitL l) : okF p l 0 1 (dg p l n) := by
  cases l with
  | none => exact ⟨mulOk_r (by decide), trivial⟩
  | some l =>
    obtain ⟨h2, h200⟩ := hl
    refine ⟨mulOk_r (by decide), ?_⟩
    have e : nextPl p (some l) 0 1 = l := by unfold nextPl; simp
    rw [e]
    rcases hp with rfl | ⟨hp2, hp13⟩
    · by_cases h0 : n / l = 0
      · rw [h0, tl_zero]; trivial
      · rw [tl_small (Nat.pos_of_ne_zero h0) (by omega)]; exact ⟨mulOk_r (by omega), trivial⟩
    · exact okF_mul hp2 _ _ _ fun d hd => by
        have := tl_dig _ p hp2 d hd
        omega
def enumF (k : Nat) (ds : List Dt) : List Dt := (ds.zipIdx k).map fun q => .tup [.int (q.2 : Nat), q.1]
theorem enumF_cons (k : Nat) (d : Dt) (ds : List Dt) : enumF k (d :: ds) = .tup [nD k, d] :: enumF (k + 1) ds := rfl
theorem enumL_F (ds : List Dt) : enumL ds = enumF 0 ds := rfl
theorem max2_p (p : Nat) : cMax2 [nD p, .int 1] = some (nD (max p 1)) := by
  unfold cMax2 nD
  show some (Dt.int (if (1 : Int) > (p : Int) then 1 else (p : Int))) = _
  congr 2
  split <;> omega
theorem nextPl_ok {p k pl : Nat} {l : Option Nat} (hp : FitP p) (hl : FitL l) : mulOk (pl : Int) ((if k = 0 ∧ l ≠ none then l.getD 1 else max p 1 : Nat) : Int) = true := by
  refine mulOk_r ?_
  split
  · rename_i h
    cases l with
    | none => exact absurd rfl h.2
    | some l => have := hl.2; show l < 2 ^ 64; omega
  · rcases hp with h | h <;> omega
abbrev Ble : M Fl := fSeq (fDrop (fApp 5 (fOp2 oMul (rVar 6) (rVar 4)))) (fSet 4 (fOp2 oMul (rVar 4) (rIf (cAnd (cB (fOp2 oEq (rVar 7) (rVal (fLit (.int 0))))) (cB (fOp2 oIsNot (rVar 1) (rVal (fLit .non))))) (rVar 1) (rVal (fCallB cMax2 (aCons (rVar 0) (aCons (rVal (fLit (.int 1))) aNil)))))))
theorem le_loop {p : Nat} {l : Option Nat} (hp : FitP p) (hl : FitL l) (d2 d3 : Dt) (w : Wd) : ∀ (ds acc : List Nat) (k pl : Nat) (o6 o7 : Option Sl), okF p l k pl ds → acc.length + ds.length ≤ 16000000 → ∃ pl' o6' o7', loopD (ftT 2 (ftsCons (ftN 7) (ftsCons (ftN 6) ftsNil))) Ble (enumF k (toD ds))
      [some (.fr (nD p)), some (.fr (lD l)), some (.fr d2), some (.fr d3), some (.fr (nD pl)), some (.owL (toD acc)), o6, o7, none, none, none] w
    = some (.nx, [some (.fr (nD p)), some (.fr (lD l)), some (.fr d2), some (.fr d3), some (.fr (nD pl')), some (.owL (toD (acc ++ lawF p l k pl ds))), o6', o7', none, none, none], w)
  | [], acc, k, pl, o6, o7, _, _ => ⟨pl, o6, o7, by rw [lawF, List.append_nil]; rfl⟩
  | d :: ds, acc, k, pl, o6, o7, hok, hlen => by
    obtain ⟨h1, h2⟩ := hok
    rw [List.length_cons] at hlen
    obtain ⟨pl', o6', o7', e⟩ := le_loop hp hl d2 d3 w ds (acc ++ [d * pl]) (k + 1) (nextPl p l k pl) (some (.fr (nD d))) (some (.fr (nD k))) h2 (by simp; omega)
    refine ⟨pl', o6', o7', ?_⟩
    have h3 : toD (d :: ds) = nD d :: toD ds := rfl
    have hsz : acc.length < sizeLine := by rw [sizeLine_eq]; omega
    have hm := nextPl_ok (k := k) (pl := pl) hp hl
    rw [h3, enumF_cons, loop_nx (ρ1 := [some (.fr (nD p)), some (.fr (lD l)), some (.fr d2), some (.fr d3), some (.fr (nD pl)), some (.owL (toD acc)), some (.fr (nD d)), some (.fr (nD k)), none, none, none])
      (ρ2 := [some (.fr (nD p)), some (.fr (lD l)), some (.fr d2), some (.fr d3), some (.fr (nD (nextPl p l k pl))), some (.owL (toD (acc ++ [d * pl]))), some (.fr (nD d)), some (.fr (nD k)), none, none, none]) (w2 := w) rfl ?_, e]
    · rw [List.append_assoc]; rfl
    · by_cases hk : k = 0
      · subst hk
        cases l with
        | none =>
          have hm' : mulOk (pl : Int) ((max p 1 : Nat) : Int) = true := hm
          simp [q_bind, isOwL, mApp, nd_mul h1, hsz, toD_app, toD_one, oIsNot, lD, max2_p, nd_mul hm', nextPl]
        | some l =>
          have hm' : mulOk (pl : Int) (l : Int) = true := mulOk_r (by have := hl.2; omega)
          simp [q_bind, isOwL, mApp, nd_mul h1, hsz, toD_app, toD_one, oIsNot, lD, nd_mul hm', nextPl]
      · have hm' : mulOk (pl : Int) ((max p 1 : Nat) : Int) = true := by rw [if_neg (fun h => hk h.1)] at hm; exact hm
        simp [q_bind, isOwL, mApp, nd_mul h1, hsz, toD_app, toD_one, oIsNot, hk, max2_p, nd_mul hm', nextPl]
abbrev Bls : M Fl := fIfS (cB (fOp2 oGt (rVar 9) (rVal (fLit (.int 0))))) (fSet 8 (fOp2 oAdd (rVal (mBind (nLc (ftN 10) (iAny (fVar 8)) (mRet true) (fOp2 oAdd (rVar 10) (rVar 9)) [10]) fun ds => mRet (.lst ds))) (rVal (mBind (nLc (ftN 10) (iAny (fVar 8)) (mRet true) (fOp2 oSub (rVar 10) (rVar 9)) [10]) fun ds => mRet (.lst ds))))) fNx
theorem ls_loop (d0 d1 d2 d3 d4 : Dt) (s5 : Sl) (o6 o7 : Option Sl) (w : Wd) : ∀ (q : List Nat) (f : List Int) (o : Option Sl), f.length * 2 ^ nz q ≤ 16777216 → ∃ o', loopD (ftN 9) Bls (toD q) [some (.fr d0), some (.fr d1), some (.fr d2), some (.fr d3), some (.fr d4), some s5, o6, o7, some (.fr (.lst (iD f))), o, none] w
    = some (.nx, [some (.fr d0), some (.fr d1), some (.fr d2), some (.fr d3), some (.fr d4), some s5, o6, o7, some (.fr (.lst (iD (q.foldl fQ f)))), o', none], w)
  | [], f, o, _ => ⟨o, rfl⟩
  | x :: q, f, o, h => by
    by_cases hx : x = 0
    · subst hx
      obtain ⟨o', e⟩ := ls_loop d0 d1 d2 d3 d4 s5 o6 o7 w q f (some (.fr (nD 0))) (by
        have : nz (0 :: q) = nz q := rfl
        rwa [this] at h)
      refine ⟨o', ?_⟩
      have h1 : toD (0 :: q) = nD 0 :: toD q := rfl
      rw [h1, loop_nx (ρ1 := [some (.fr d0), some (.fr d1), some (.fr d2), some (.fr d3), some (.fr d4), some s5, o6, o7, some (.fr (.lst (iD f))), some (.fr (nD 0)), none]) rfl (by simp [q_bind]; exact ⟨rfl, rfl⟩), e]
      rfl
    · have hn : nz (x :: q) = nz q + 1 := by simp [nz, hx]
      have hpos : 0 < x := by omega
      have h2 : 1 ≤ 2 ^ nz q := Nat.one_le_two_pow
      have hlen : f.length + f.length ≤ 16777216 := by
        rw [hn, Nat.pow_succ, Nat.mul_comm (2 ^ nz q), ← Nat.mul_assoc] at h
        have : f.length * 2 * 1 ≤ f.length * 2 * 2 ^ nz q := Nat.mul_le_mul_left _ h2
        omega
      obtain ⟨o', e⟩ := ls_loop d0 d1 d2 d3 d4 s5 o6 o7 w q (fQ f x) (some (.fr (nD x))) (by
        have hl : (fQ f x).length = f.length * 2 := by simp only [fQ, hx, if_neg, not_false_eq_true, List.length_append, List.length_map]; omega
        rw [hl, Nat.mul_assoc, Nat.mul_comm 2, ← Nat.pow_succ]; rw [hn] at h; exact h)
      refine ⟨o', ?_⟩
      have h1 : toD (x :: q) = nD x :: toD q := rfl
      have c1 := lc_ints (fi := iAny (fVar 8)) (fe := fOp2 oSub (rVar 10) (rVar 9)) (ρ := [some (.fr d0), some (.fr d1), some (.fr d2), some (.fr d3), some (.fr d4), some s5, o6, o7, some (.fr (.lst (iD f))), some (.fr (nD x)), none]) (w := w) (i := 10) f (· - (x : Int)) (by simp [q_bind]) rfl (fun n _ => by simp [q_bind]) (by omega)
      have c2 := lc_ints (fi := iAny (fVar 8)) (fe := fOp2 oAdd (rVar 10) (rVar 9)) (ρ := [some (.fr d0), some (.fr d1), some (.fr d2), some (.fr d3), some (.fr d4), some s5, o6, o7, some (.fr (.lst (iD f))), some (.fr (nD x)), none]) (w := w) (i := 10) f (· + (x : Int)) (by simp [q_bind]) rfl (fun n _ => by simp [q_bind]) (by omega)
      have hadd := add_ints (a := f.map (· + (x : Int))) (b := f.map (· - (x : Int))) (by simpa using hlen)
      rw [h1, loop_nx (ρ1 := [some (.fr d0), some (.fr d1), some (.fr d2), some (.fr d3), some (.fr d4), some s5, o6, o7, some (.fr (.lst (iD f))), some (.fr (nD x)), none]) rfl (by simp [q_bind, hpos, -u_lc, c1, c2, hadd]; exact ⟨rfl, rfl⟩)]
      have hf : fQ f x = f.map (· + (x : Int)) ++ f.map (· - (x : Int)) := by simp only [fQ, hx, if_neg, not_false_eq_true]
      rw [hf] at e
      rw [List.foldl_cons, hf]
      exact e
theorem l_support_ok {p n : Nat} {l : Option Nat} (hp : FitP p) (hl : FitL l) (hn : n < 2 ^ 200) (hz : nz (parts p l n).dropLast ≤ 24) (w : Wd) : m_l_support [nD p, lD l, nD n] w = some (.lst (iD (sup p l n)), w) := by
  obtain ⟨q, b, e1, e2, e3⟩ := parts_cut p l n
  obtain ⟨pl', o6, o7, el⟩ := le_loop hp hl (nD n) (.lst (toD (dg p l n))) w (dg p l n) [] 0 1 none none (okF_dg hp hl) (by have := dg_length (p := p) hn hl; simp; omega)
  rw [lawF_parts hp hl, List.nil_append, e1] at el
  rw [e2] at hz
  have h24 : (1 : Nat) * 2 ^ nz q ≤ 16777216 := by
    rw [Nat.one_mul]
    exact Nat.le_trans (Nat.pow_le_pow_right (by decide) hz) (by decide)
  obtain ⟨o', e⟩ := ls_loop (nD p) (lD l) (nD n) (.lst (toD (dg p l n))) (nD pl') (.owL (toD (q ++ [b]))) o6 o7 w q [(b : Int)] none h24
  have hs : oSl none (some (q.length : Int)) (.lst (toD (q ++ [b]))) = some (.lst (toD q)) := by
    rw [sl_take, toD_app, List.take_left' (toD_len q)]
  have hi : oIx (.lst (toD (q ++ [b]))) (.int (q.length : Int)) = some (nD b) := by
    rw [ix_nat, toD_app, List.getElem?_append_right (by simp)]; simp [toD_one]
  have hsub : oSub (nD (q.length + 1)) (.int 1) = some (.int (q.length : Int)) := by
    show some (Dt.int (((q.length + 1 : Nat) : Int) - 1)) = _
    congr 2; omega
  have e0 : [nD b] = iD [(b : Int)] := rfl
  have hen : enumL (toD (dg p l n)) = enumF 0 (toD (dg p l n)) := rfl
  have hsup : srtI (q.foldl fQ [(b : Int)]) = sup p l n := by unfold sup; rw [e2, e3]
  have el' := el
  rw [show nD 1 = .int 1 from rfl, show toD [] = [] from rfl] at el'
  simp [m_l_support, u_run, F_l_support, env0, q_bind, ldigits_ok hp hl hn, inLine_ok, asI, asL, hen, el', hsub, hi, hs, e0, e, hsup]
end Lw.T

end
section
set_option Elab.async false
set_option linter.all false
set_option maxRecDepth 100000
set_option maxHeartbeats 4000000
namespace Lw.T
open PySem PySem.Spec L2 Lw Dg
abbrev V (d : Dt) : Option Sl := some (.fr d)
/-! opening -/
def stir : Int → List Int → Int
  | m, [] => m
  | m, c :: cs => stir ((m * 69069 + c * 31 + 5).fmod 2147483629) cs
abbrev Bop : M Fl := fSet 1 (fOp2 oMod (rVal (fCallB cInt (aCons (rVal (fOp2 oAdd (rVal (fOp2 oAdd (rVal (fOp2 oMul (rVar 1) (rVal (fLit (.int 69069))))) (rVal (fOp2 oMul (rVar 2) (rVal (fLit (.int 31))))))) (rVal (fLit (.int 5))))) aNil))) (rVal (fLit (.int 2147483629))))
theorem op_loop (r : Dt) (w : Wd) : ∀ (ns : List Int) (m : Int) (o2 : Option Sl), ∃ o2', loopD (ftN 2) Bop (iD ns) [V r, V (.int m), o2, none] w = some (.nx, [V r, V (.int (stir m ns)), o2', none], w)
  | [], m, o2 => ⟨o2, rfl⟩
  | n :: ns, m, o2 => by
    obtain ⟨o2', e⟩ := op_loop r w ns ((m * 69069 + n * 31 + 5).fmod 2147483629) (V (.int n))
    refine ⟨o2', ?_⟩
    have hc : iD (n :: ns) = .int n :: iD ns := rfl
    have m1 : oMul (.int m) (.int 69069) = some (.int (m * 69069)) := by
      have : mulOk m 69069 = true := mulOk_r (j := 69069) (by decide)
      simp only [oMul, this, if_true]
    have m2 : oMul (.int n) (.int 31) = some (.int (n * 31)) := by
      have : mulOk n 31 = true := mulOk_r (j := 31) (by decide)
      simp only [oMul, this, if_true]
    have m3 : oMod (.int (m * 69069 + n * 31 + 5)) (.int 2147483629) = some (.int ((m * 69069 + n * 31 + 5).fmod 2147483629)) := by
      simp [oMod]
    rw [hc, loop_nx (ρ1 := [V r, V (.int m), V (.int n), none]) (ρ2 := [V r, V (.int ((m * 69069 + n * 31 + 5).fmod 2147483629)), V (.int n), none]) (w2 := w) rfl ?_]
    · exact e
    · simp [q_bind, m1, m2, m3, cInt]
def Sabs (n : Int) : Int := if n < 0 then -n else n
theorem open_ok {ns : List Int} (h : ns.length ≤ 63) : ∃ s, m_l_open_cells [.rol ns] none = some (.src, some s) ∧ Good s := by
  obtain ⟨o2', e⟩ := op_loop (.rol ns) none ns 11 none
  have hit : itD (.rol ns) = some (iD ns) := rfl
  have hy : (iD ns).map (fun d => match d with | .int n => .int (Sabs n) | d => d) = iD (ns.map Sabs) := by
    unfold iD; rw [List.map_map, List.map_map]; rfl
  have c := nLc_map (ft := ftN 2) (fc := mRet true) (vs := [2]) (fi := iAny (fVar 0)) (fe := fCallB cAbs (aCons (rVar 2) aNil)) (ρ := [V (.rol ns), V (.int (stir 11 ns)), o2', none]) (ρ1 := [V (.rol ns), V (.int (stir 11 ns)), o2', none]) (ρ0 := [V (.rol ns), V (.int (stir 11 ns)), none, none]) (w := none) (w1 := none) (ds := iD ns) (fun d => match d with | .int n => .int (Sabs n) | d => d)
    (by simp [q_bind, hit]) rfl (fun d hd => by
      obtain ⟨n, hn, rfl⟩ := List.mem_map.mp hd
      exact ⟨_, rfl, rfl, by simp [q_bind, cAbs, Sabs], rfl⟩) (by rw [iD_len]; omega)
  rw [hy] at c
  refine ⟨⟨(ns.map Sabs).reverse, 1, stir 11 ns, 0⟩, ?_, by unfold Good; simp; omega⟩
  simp [m_l_open_cells, u_run, F_l_open_cells, env0, q_bind, hit, e, -u_lc, c, fOpenS, intsOf_iD]
end Lw.T

end
section
set_option Elab.async false
set_option linter.all false
set_option maxRecDepth 100000
set_option maxHeartbeats 2000000
namespace Dg
open PySem
/-! ### numbers of choices -/
def bi : Nat → Nat → Nat
  | _, 0 => 1
  | 0, _ + 1 => 0
  | n + 1, k + 1 => bi n k + bi n (k + 1)
theorem bi_zero (n : Nat) : bi n 0 = 1 := by cases n <;> rfl
theorem bi_big : ∀ {n k : Nat}, n < k → bi n k = 0
  | 0, k + 1, _ => rfl
  | n + 1, k + 1, h => by
    show bi n k + bi n (k + 1) = 0
    rw [bi_big (n := n) (k := k) (by omega), bi_big (n := n) (k := k + 1) (by omega)]
theorem bi_self : ∀ n : Nat, bi n n = 1
  | 0 => rfl
  | n + 1 => by
    show bi n n + bi n (n + 1) = 1
    rw [bi_self n, bi_big (by omega)]
theorem bi_sm : ∀ n k : Nat, (n + 1) * bi n k = (k + 1) * bi (n + 1) (k + 1)
  | 0, 0 => rfl
  | 0, k + 1 => by
    show (0 + 1) * 0 = (k + 1 + 1) * (bi 0 (k + 1) + bi 0 (k + 2))
    rw [bi_big (n := 0) (k := k + 1) (by omega), bi_big (n := 0) (k := k + 2) (by omega)]
    omega
  | n + 1, 0 => by
    have h := bi_sm n 0
    show (n + 1 + 1) * 1 = (0 + 1) * (bi (n + 1) 0 + bi (n + 1) 1)
    rw [bi_zero] at h
    rw [bi_zero]
    have h : (n + 1) * 1 = (0 + 1) * bi (n + 1) 1 := h
    omega
  | n + 1, k + 1 => by
    have h1 := bi_sm n k
    have h2 := bi_sm n (k + 1)
    have e1 : bi (n + 1) (k + 1) = bi n k + bi n (k + 1) := rfl
    have e2 : bi (n + 2) (k + 2) = bi (n + 1) (k + 1) + bi (n + 1) (k + 2) := rfl
    rw [e2, Nat.mul_add]
    have a1 : (n + 1 + 1) * bi (n + 1) (k + 1) = (n + 1) * bi (n + 1) (k + 1) + bi (n + 1) (k + 1) := by rw [Nat.succ_mul]
    have a2 : (k + 1 + 1) * bi (n + 1) (k + 1) = (k + 1) * bi (n + 1) (k + 1) + bi (n + 1) (k + 1) := by rw [Nat.succ_mul]
    rw [a1, a2, e1, Nat.mul_add]
    have h2' : (n + 1) * bi n (k + 1) = (k + 1 + 1) * bi (n + 1) (k + 2) := h2
    rw [e1] at h1
    rw [← h2']
    omega
theorem bi_mul {n k : Nat} : (k + 1) * bi n (k + 1) = (n - k) * bi n k := by
  by_cases h : n < k
  · rw [bi_big h, bi_big (by omega)]; simp
  · have h1 := bi_sm n k
    have e1 : bi (n + 1) (k + 1) = bi n k + bi n (k + 1) := rfl
    rw [e1, Nat.mul_add] at h1
    have h2 : (n + 1) * bi n k = (k + 1) * bi n k + (n - k) * bi n k := by rw [← Nat.add_mul]; congr 1; omega
    omega
/-- the product n (n - 1) .. of k -/
def fal (n : Nat) : Nat → Nat
  | 0 => 1
  | k + 1 => fal n k * (n - k)
def fac : Nat → Nat
  | 0 => 1
  | k + 1 => fac k * (k + 1)
theorem fac_pos : ∀ k, 0 < fac k
  | 0 => by decide
  | k + 1 => Nat.mul_pos (fac_pos k) (by omega)
theorem fal_bi (n : Nat) : ∀ k : Nat, fal n k = bi n k * fac k
  | 0 => by rw [bi_zero]; rfl
  | k + 1 => by
    show fal n k * (n - k) = bi n (k + 1) * (fac k * (k + 1))
    rw [fal_bi n k]
    have := bi_mul (n := n) (k := k)
    calc bi n k * fac k * (n - k) = ((n - k) * bi n k) * fac k := by rw [Nat.mul_comm, Nat.mul_assoc]
      _ = ((k + 1) * bi n (k + 1)) * fac k := by rw [this]
      _ = bi n (k + 1) * (fac k * (k + 1)) := by rw [Nat.mul_comm (k + 1), Nat.mul_assoc, Nat.mul_comm (fac k)]
theorem fal_self (n : Nat) : ∀ k : Nat, k ≤ n → fal n k * fac (n - k) = fac n
  | 0, _ => by show 1 * fac n = fac n; omega
  | k + 1, h => by
    have ih := fal_self n k (by omega)
    show fal n k * (n - k) * fac (n - (k + 1)) = fac n
    rw [← ih]
    have e : n - k = (n - (k + 1)) + 1 := by omega
    rw [e]
    show fal n k * ((n - (k + 1)) + 1) * fac (n - (k + 1)) = fal n k * (fac (n - (k + 1)) * ((n - (k + 1)) + 1))
    rw [Nat.mul_assoc, Nat.mul_comm (fac (n - (k + 1)))]
theorem bi_sym {n k : Nat} (h : k ≤ n) : bi n k = bi n (n - k) := by
  have h1 : fal n k * fac (n - k) = fac n := fal_self n k h
  have h2 : fal n (n - k) * fac (n - (n - k)) = fac n := fal_self n (n - k) (by omega)
  rw [fal_bi] at h1 h2
  have e : n - (n - k) = k := by omega
  rw [e] at h2
  have h3 : bi n k * (fac k * fac (n - k)) = bi n (n - k) * (fac k * fac (n - k)) := by
    rw [← Nat.mul_assoc, h1, ← h2, Nat.mul_assoc, Nat.mul_comm (fac k)]
  exact Nat.eq_of_mul_eq_mul_right (Nat.mul_pos (fac_pos k) (fac_pos (n - k))) h3
theorem fp_fal {n : Nat} : ∀ k : Nat, k ≤ n → Builtin.Math.fallingProduct (n : Int) k = (fal n k : Int)
  | 0, _ => rfl
  | k + 1, h => by
    have ih := fp_fal (n := n) k (by omega)
    unfold Builtin.Math.fallingProduct at ih ⊢
    rw [List.range_succ, List.foldl_append, ih]
    show (fal n k : Int) * ((n : Int) - (k : Int)) = ((fal n k * (n - k) : Nat) : Int)
    rw [Int.natCast_mul, Int.natCast_sub (by omega)]
theorem mcComb_bi (n k : Nat) : W.mcComb (n : Int) (k : Int) = (bi n k : Int) := by
  by_cases h : n < k
  · rw [W.mcComb_above (by omega), bi_big h]; rfl
  · have at' : ∀ m : Nat, m ≤ n → Builtin.Math.fallingProduct (n : Int) m / Builtin.Math.fallingProduct (m : Int) m = (bi n m : Int) := fun m hm => by
      rw [fp_fal m hm, fp_fal m (Nat.le_refl m), ← Int.natCast_ediv, fal_bi, fal_bi, bi_self, Nat.one_mul, Nat.mul_div_cancel _ (fac_pos m)]
    by_cases h2 : k ≤ n - k
    · rw [W.mcComb_at (m := (k : Int)) (by omega) (by omega) (by omega)]
      exact at' k (by omega)
    · rw [W.mcComb_at (m := ((n - k : Nat) : Int)) (by omega) (by omega) (by omega), bi_sym (n := n) (k := k) (by omega)]
      exact at' (n - k) (by omega)
/-- as many halves there are -/
def cnt (n k : Nat) : Nat := if n < k ∨ (n - k) % 2 = 1 then 0 else bi n ((n - k) / 2) - (if (n - k) / 2 = 0 then 0 else bi n ((n - k) / 2 - 1))
theorem bi_up {n a : Nat} (h : 2 * (a + 1) ≤ n + 1) : bi n a ≤ bi n (a + 1) := by
  have h1 := bi_mul (n := n) (k := a)
  have h2 : (a + 1) * bi n a ≤ (n - a) * bi n a := Nat.mul_le_mul_right _ (by omega)
  rw [← h1] at h2
  exact Nat.le_of_mul_le_mul_left h2 (by omega)
theorem bi_lt : ∀ (n k : Nat), bi n k ≤ 2 ^ n
  | _, 0 => by rw [bi_zero]; exact Nat.one_le_two_pow
  | 0, _ + 1 => by show 0 ≤ _; omega
  | n + 1, k + 1 => by
    show bi n k + bi n (k + 1) ≤ 2 ^ (n + 1)
    have h1 := bi_lt n k
    have h2 := bi_lt n (k + 1)
    rw [Nat.pow_succ]; omega
end Dg

end
section
set_option Elab.async false
set_option linter.all false
set_option maxRecDepth 100000
set_option maxHeartbeats 4000000
namespace Lw.T
open PySem PySem.Spec L2 Lw Dg
theorem nd_sub {a b : Nat} (h : b ≤ a) : oSub (nD a) (nD b) = some (nD (a - b)) := by
  show some (Dt.int ((a : Int) - (b : Int))) = some (.int ((a - b : Nat) : Int))
  rw [Int.natCast_sub h]
theorem nd_gt' (a b : Nat) : oGt (nD a) (nD b) = some (.bl (decide (b < a))) := by
  show some (Dt.bl (decide ((b : Int) < (a : Int)))) = _
  simp
theorem nd_ge' (a b : Nat) : oGe (nD a) (nD b) = some (.bl (decide (b ≤ a))) := by
  show some (Dt.bl (decide ((b : Int) ≤ (a : Int)))) = _
  simp
theorem nd_le' (a b : Nat) : oLe (nD a) (nD b) = some (.bl (decide (a ≤ b))) := by
  show some (Dt.bl (decide ((a : Int) ≤ (b : Int)))) = _
  simp
theorem nd_lt0 (a : Nat) : oLt (nD a) (.int 0) = some (.bl false) := by
  show some (Dt.bl (decide ((a : Int) < 0))) = _
  have : ¬ ((a : Int) < 0) := by omega
  simp [this]
theorem nd_mod2 (a : Nat) : oMod (nD a) (.int 2) = some (nD (a % 2)) := nd_mod (b := 2) (by decide)
theorem nd_div2 (a : Nat) : oDiv (nD a) (.int 2) = some (nD (a / 2)) := nd_div (b := 2) (by decide)
theorem nd_sub1 {a : Nat} (h : 0 < a) : oSub (nD a) (.int 1) = some (nD (a - 1)) := nd_sub (b := 1) h
theorem nd_add1 (a : Nat) : oAdd (nD a) (.int 1) = some (nD (a + 1)) := rfl
theorem nd_comb {n k : Nat} (h : n ≤ 18000) : cComb [nD n, nD k] = some (nD (bi n k)) := by
  unfold cComb nD
  have h1 : decide ((0 : Int) ≤ (n : Int)) = true := decide_eq_true (by omega)
  have h2 : decide ((0 : Int) ≤ (k : Int)) = true := decide_eq_true (by omega)
  have h3 : decide ((n : Int) ≤ 18000) = true := decide_eq_true (by omega)
  simp only [h1, h2, h3, Bool.and_self, if_true, mcComb_bi]
theorem cnt_le (n k : Nat) : cnt n k ≤ 2 ^ n := by
  unfold cnt
  split
  · exact Nat.zero_le _
  · exact Nat.le_trans (Nat.sub_le _ _) (bi_lt _ _)
theorem count_ok {n k : Nat} (hn : n ≤ 18000) (w : Wd) : m_count [nD n, nD k] w = some (nD (cnt n k), w) := by
  by_cases h1 : n < k
  · have e : cnt n k = 0 := by unfold cnt; rw [if_pos (.inl h1)]
    rw [e]
    simp [m_count, u_run, F_count, env0, q_bind, nd_gt', h1]
    rfl
  · have hk : k ≤ n := by omega
    by_cases h2 : (n - k) % 2 = 1
    · have e : cnt n k = 0 := by unfold cnt; rw [if_pos (.inr h2)]
      rw [e]
      simp [m_count, u_run, F_count, env0, q_bind, nd_gt', h1, nd_sub hk, nd_mod2, h2]
      rfl
    · have hs := nd_sub hk
      by_cases h3 : (n - k) / 2 = 0
      · have e : cnt n k = bi n 0 := by unfold cnt; rw [if_neg (by omega), h3, if_pos rfl]; rfl
        rw [e]
        simp [m_count, u_run, F_count, env0, q_bind, nd_gt', h1, hs, nd_mod2, h2, nd_div2, h3, nd_comb hn]
        exact nd_sub (b := 0) (Nat.zero_le _) ▸ rfl
      · have e : cnt n k = bi n ((n - k) / 2) - bi n ((n - k) / 2 - 1) := by unfold cnt; rw [if_neg (by omega), if_neg h3]
        have h4 : 0 < (n - k) / 2 := by omega
        have h5 : bi n ((n - k) / 2 - 1) ≤ bi n ((n - k) / 2) := by
          have := bi_up (n := n) (a := (n - k) / 2 - 1) (by omega)
          rwa [show (n - k) / 2 - 1 + 1 = (n - k) / 2 by omega] at this
        rw [e]
        simp [m_count, u_run, F_count, env0, q_bind, nd_gt', h1, hs, nd_mod2, h2, nd_div2, h4, nd_comb hn, nd_sub1 h4, nd_sub h5]
/-! the law's own way -/
theorem bi_step {n i : Nat} (hi : i < n) (h : n < 10000) : oDiv (nD (bi n i * (n - i))) (nD (i + 1)) = some (nD (bi n (i + 1))) := by
  rw [nd_div (divOk_small (by omega) (by omega))]
  have h1 := bi_mul (n := n) (k := i)
  rw [Nat.mul_comm, ← h1, Nat.mul_comm, Nat.mul_div_cancel _ (by omega)]
theorem lc_loop (n : Nat) (hn : n < 10000) (d1 d2 : Dt) (w : Wd) (last : Option Sl) : ∀ (m i : Nat) (o4 : Option Sl), i + m ≤ n → ∃ o4', loopD (ftN 4) (fSet 3 (fOp2 oDiv (rVal (fOp2 oMul (rVar 3) (rVal (fOp2 oSub (rVar 0) (rVar 4))))) (rVal (fOp2 oAdd (rVar 4) (rVal (fLit (.int 1)))))))
    ((List.range' i m).map nD) [some (.fr (nD n)), some (.fr d1), some (.fr d2), some (.fr (nD (bi n i))), o4] w = some (.nx, [some (.fr (nD n)), some (.fr d1), some (.fr d2), some (.fr (nD (bi n (i + m)))), o4'], w)
  | 0, i, o4, _ => ⟨o4, rfl⟩
  | m + 1, i, o4, h => by
    obtain ⟨o4', e⟩ := lc_loop n hn d1 d2 w last m (i + 1) (some (.fr (nD i))) (by omega)
    refine ⟨o4', ?_⟩
    rw [List.range'_succ, List.map_cons, loop_nx (ρ1 := [some (.fr (nD n)), some (.fr d1), some (.fr d2), some (.fr (nD (bi n i))), some (.fr (nD i))]) (ρ2 := [some (.fr (nD n)), some (.fr d1), some (.fr d2), some (.fr (nD (bi n (i + 1)))), some (.fr (nD i))]) (w2 := w) rfl ?_]
    · rw [e, show i + 1 + m = i + (m + 1) by omega]
    · have hm : mulOk ((bi n i : Nat) : Int) ((n - i : Nat) : Int) = true := mulOk_r (by omega)
      simp [q_bind, nd_sub (show i ≤ n by omega), nd_mul hm, nd_add1, bi_step (show i < n by omega) hn]
theorem rg1_nD {m : Nat} (h : m < 2 ^ 30) : rg1 [nD m] = some ((List.range' 0 m).map nD) := by
  have hf : in62 ((m : Nat) : Int) = true := by unfold in62; simp; omega
  unfold rg1 nD
  simp only [hf, if_true]
  rw [← List.range_eq_range']
  simp [rgD, nD]
/-! the law's count, as both texts have it -/
def cnt2 (n a : Nat) : Nat := bi n a - (if a = 0 then 0 else bi n (a - 1))
abbrev LcB : M Fl := (fSet 3 (fOp2 oDiv (rVal (fOp2 oMul (rVar 3) (rVal (fOp2 oSub (rVar 0) (rVar 4))))) (rVal (fOp2 oAdd (rVar 4) (rVal (fLit (.int 1)))))))
theorem lc_tail {n k a : Nat} {φ : List Dt → Option (List Dt)} {ds : List Dt} (hn : n < 10000) (hs : oSub (nD n) (nD k) = some (nD (n - k))) (h2 : oDiv (nD (n - k)) (.int 2) = some (nD a)) (ha : 2 * a ≤ n) (hr : φ [nD a] = some ds) (w : Wd) (o4 o4' : Option Sl)
    (e : loopD (ftN 4) LcB ds [some (.fr (nD n)), some (.fr (nD k)), some (.fr (nD a)), some (.fr (.int 1)), o4] w = some (.nx, [some (.fr (nD n)), some (.fr (nD k)), some (.fr (nD a)), some (.fr (nD (bi n a))), o4'], w)) :
  (fSeq (fPar 2 3 (aCons (fOp2 oDiv (rVal (fOp2 oSub (rVar 0) (rVar 1))) (rVal (fLit (.int 2)))) (aCons (fLit (.int 1)) aNil)))
  (fSeq (fFor (ftN 4) (iRg φ (aCons (rVar 2) aNil)) LcB)
  (fRet (fOp2 oSub (rVar 3) (rIf (cB (fOp2 oGt (rVar 2) (rVal (fLit (.int 0))))) (rVal (fOp2 oDiv (rVal (fOp2 oMul (rVar 3) (rVar 2))) (rVal (fOp2 oAdd (rVal (fOp2 oSub (rVar 0) (rVar 2))) (rVal (fLit (.int 1))))))) (rVal (fLit (.int 0)))))))) [some (.fr (nD n)), some (.fr (nD k)), none, none, o4] w
    = some (.rt (nD (cnt2 n a)), [some (.fr (nD n)), some (.fr (nD k)), some (.fr (nD a)), some (.fr (nD (bi n a))), o4'], w) := by
  by_cases h3 : a = 0
  · have ec : cnt2 n a = bi n a := by unfold cnt2; rw [if_pos h3]; rfl
    have hz : oSub (nD (bi n a)) (.int 0) = some (nD (bi n a)) := nd_sub (b := 0) (Nat.zero_le _)
    rw [ec]
    have h4 : ¬ 0 < a := by omega
    simp [q_bind, hs, h2, hr, e, hz, h4]
  · have ec : cnt2 n a = bi n a - bi n (a - 1) := by unfold cnt2; rw [if_neg h3]
    have h4 : 0 < a := by omega
    have h5 : bi n (a - 1) ≤ bi n a := by
      have := bi_up (n := n) (a := a - 1) (by omega)
      rwa [show a - 1 + 1 = a by omega] at this
    have hm : mulOk ((bi n a : Nat) : Int) ((a : Nat) : Int) = true := mulOk_r (by omega)
    have h6 : oDiv (nD (bi n a * a)) (nD (n - a + 1)) = some (nD (bi n (a - 1))) := by
      rw [nd_div (divOk_small (by omega) (by omega))]
      have h := bi_mul (n := n) (k := a - 1)
      rw [show a - 1 + 1 = a by omega, show n - (a - 1) = n - a + 1 by omega] at h
      rw [Nat.mul_comm, h, Nat.mul_comm, Nat.mul_div_cancel _ (by omega)]
    rw [ec]
    simp [q_bind, hs, h2, h4, hr, e, nd_mul hm, nd_sub (show a ≤ n by omega), nd_add1, h6, nd_sub h5]
theorem l_count_ok {n k : Nat} (hn : n < 10000) (w : Wd) : m_l_count [nD n, nD k] w = some (nD (cnt n k), w) := by
  by_cases h1 : n < k
  · have e : cnt n k = 0 := by unfold cnt; rw [if_pos (.inl h1)]
    rw [e]
    simp [m_l_count, u_run, F_l_count, env0, q_bind, nd_gt', h1, nd_lt0]
    rfl
  · have hk : k ≤ n := by omega
    by_cases h2 : (n - k) % 2 = 1
    · have e : cnt n k = 0 := by unfold cnt; rw [if_pos (.inr h2)]
      rw [e]
      simp [m_l_count, u_run, F_l_count, env0, q_bind, nd_gt', h1, nd_lt0, nd_sub hk, nd_mod2, h2]
      rfl
    · have ec : cnt n k = cnt2 n ((n - k) / 2) := by unfold cnt cnt2; rw [if_neg (by omega)]
      have hd := nd_div2 (n - k)
      have ha : 2 * ((n - k) / 2) ≤ n := by omega
      rw [ec]
      generalize (n - k) / 2 = a at *
      obtain ⟨o4', e⟩ := lc_loop n hn (nD k) (nD a) w none a 0 none (by omega)
      rw [bi_zero, Nat.zero_add] at e
      have t := lc_tail (φ := rg1) hn (nd_sub hk) hd ha (rg1_nD (m := a) (by omega)) w none o4' e
      unfold m_l_count runF F_l_count
      rw [seq_nx (ρ1 := [some (.fr (nD n)), some (.fr (nD k)), none, none, none]) (w1 := w) (by simp [env0, q_bind, nd_gt', h1, nd_lt0, nd_sub hk, nd_mod2, h2])]
      rw [t]
theorem l_count_v2_is : m_l_count_v2 = m_l_count := rfl
end Lw.T

end
section
set_option Elab.async false
set_option linter.all false
set_option maxRecDepth 100000
set_option maxHeartbeats 4000000
namespace Dg
/-! ### sizes -/
def szI (h : Nat → Nat → Bool) (n : Nat) : Nat → List Int
  | 0 => []
  | i + 1 => szI h n i ++ [(cnt n (n - 2 * i) : Int) - (((List.range i).filter fun j => h (n - 2 * i) (n - 2 * j)).map fun j => (szI h n i).getD j 0).sum]
def sz (h : Nat → Nat → Bool) (n j : Nat) : Int := (szI h n (j + 1)).getD j 0
theorem szI_length (h : Nat → Nat → Bool) (n : Nat) : ∀ i, (szI h n i).length = i
  | 0 => rfl
  | i + 1 => by unfold szI; rw [List.length_append, szI_length h n i]; rfl
theorem szI_is (h : Nat → Nat → Bool) (n : Nat) : ∀ i, szI h n i = (List.range i).map (sz h n)
  | 0 => rfl
  | i + 1 => by
    have ih := szI_is h n i
    have e : sz h n i = (cnt n (n - 2 * i) : Int) - (((List.range i).filter fun j => h (n - 2 * i) (n - 2 * j)).map fun j => (szI h n i).getD j 0).sum := by
      unfold sz
      rw [szI, List.getD_eq_getElem?_getD, List.getElem?_append_right (by rw [szI_length]; exact Nat.le_refl _), szI_length, Nat.sub_self]
      rfl
    rw [List.range_succ, List.map_append, ← ih, List.map_singleton, e, szI]
theorem sz_eq (h : Nat → Nat → Bool) (n i : Nat) : sz h n i = (cnt n (n - 2 * i) : Int) - (((List.range i).filter fun j => h (n - 2 * i) (n - 2 * j)).map (sz h n)).sum := by
  have e : sz h n i = (cnt n (n - 2 * i) : Int) - (((List.range i).filter fun j => h (n - 2 * i) (n - 2 * j)).map fun j => (szI h n i).getD j 0).sum := by
    unfold sz
    rw [szI, List.getD_eq_getElem?_getD, List.getElem?_append_right (by rw [szI_length]; exact Nat.le_refl _), szI_length, Nat.sub_self]
    rfl
  rw [e]
  congr 2
  refine List.map_congr_left fun j hj => ?_
  have hj' : j < i := List.mem_range.mp (List.mem_filter.mp hj).1
  rw [szI_is, List.getD_eq_getElem?_getD, List.getElem?_map, List.getElem?_range hj']
  rfl
end Dg
namespace Lw.T
open PySem PySem.Spec L2 Lw Dg
/-- whether the room of k holds the piece r -/
def hold (p : Nat) (l : Option Nat) (k r : Nat) : Bool := decide ((k : Int) + 1 ∈ sup p l (r + 1))
/-- as many steps of two there are from n down -/
def Halfs (n m : Nat) : Prop := n < 2 * m ∧ 2 * m ≤ n + 2
theorem halfs (n : Nat) : Halfs n (n / 2 + 1) := by unfold Halfs; omega
def kN (n j : Nat) : Key := .inl ((n - 2 * j : Nat) : Int)
theorem kN_inj {n i j : Nat} (hi : 2 * i ≤ n) (hj : 2 * j ≤ n) (e : kN n i = kN n j) : i = j := by
  unfold kN at e
  injection e with e
  omega
theorem kN_nodup {n : Nat} : ∀ {m : Nat}, (m = 0 ∨ 2 * (m - 1) ≤ n) → ((List.range m).map (kN n)).Nodup := fun {m} h => by
  rw [List.nodup_iff_pairwise_ne, List.pairwise_map]
  refine List.Pairwise.imp_of_mem ?_ List.nodup_range
  intro a b ha hb ne e
  have ha' := List.mem_range.mp ha
  have hb' := List.mem_range.mp hb
  exact ne (kN_inj (by omega) (by omega) e)
theorem kN_notin {n m : Nat} (h : 2 * m ≤ n) : kN n m ∉ (List.range m).map (kN n) := fun z => by
  obtain ⟨j, hj, e⟩ := List.mem_map.mp z
  have hj' := List.mem_range.mp hj
  have := kN_inj (by omega) h e
  omega
theorem getN {n m j : Nat} (f : Nat → Dt) (hj : j < m) (h : 2 * (m - 1) ≤ n) : getK ((List.range m).map (kN n)) ((List.range m).map f) (kN n j) = some (f j) :=
  getK_on (kN n) f (List.range m) j (List.mem_range.mpr hj) fun y hy e => by
    have hy' := List.mem_range.mp hy
    rw [kN_inj (by omega) (by omega) e]
/-! ranges -/
theorem rg_main {n m : Nat} (hn : n < 2 ^ 30) (h : Halfs n m) : rg3 [nD n, .int (-1), .int (-2)] = some ((List.range m).map fun j => nD (n - 2 * j)) := by
  unfold Halfs at h
  unfold nD
  rw [rg3_ok (n := m) (by omega) (by decide) (by decide) (by decide) (by omega) (by unfold Builtin.Range.rangeSize; simp; omega)]
  congr 1
  unfold rgDc
  refine List.map_congr_left fun j hj => ?_
  have := List.mem_range.mp hj
  congr 1
  omega
theorem rg_down {n i : Nat} (hn : n < 2 ^ 30) (h : 2 * i ≤ n) : rg3 [nD n, nD (n - 2 * i), .int (-2)] = some ((List.range i).map fun j => nD (n - 2 * j)) := by
  unfold nD
  rw [rg3_ok (n := i) (by omega) (by omega) (by decide) (by decide) (by omega) (by unfold Builtin.Range.rangeSize; simp; omega)]
  congr 1
  unfold rgDc
  refine List.map_congr_left fun j hj => ?_
  have := List.mem_range.mp hj
  congr 1
  omega
theorem rg_up {n i : Nat} (hn : n < 2 ^ 30) (h : 2 * i ≤ n) : rg3 [nD (n - 2 * i + 2), nD (n + 1), .int 2] = some ((List.range i).reverse.map fun j => nD (n - 2 * j)) := by
  unfold nD
  rw [rg3_ok (n := i) (by omega) (by omega) (by decide) (by decide) (by omega) (by unfold Builtin.Range.rangeSize; simp; omega)]
  congr 1
  unfold rgDc
  apply List.ext_getElem
  · simp
  · intro t h1 h2
    simp at h1 h2 ⊢
    omega
theorem sum_rev (f : Nat → Int) (b : Nat → Bool) (i : Nat) : (((List.range i).reverse.filter b).map f).sum = (((List.range i).filter b).map f).sum := by
  rw [List.filter_reverse, List.map_reverse, List.sum_reverse]
theorem sum_ints (ns : List Int) : cSum [.lst (ns.map Dt.int)] = some (.int ns.sum) := by
  simp only [cSum, intsOf_map]
end Lw.T

end
section
set_option Elab.async false
set_option linter.all false
set_option maxRecDepth 100000
set_option maxHeartbeats 4000000
namespace Lw.T
open PySem PySem.Spec L2 Lw Dg
theorem range_split {m x : Nat} {done rest : List Nat} (h : done ++ x :: rest = List.range m) : x = done.length ∧ done = List.range x ∧ x < m := by
  have hl : (done ++ x :: rest).length = m := by rw [h, List.length_range]
  rw [List.length_append, List.length_cons] at hl
  have hx : (done ++ x :: rest)[done.length]? = some x := by
    rw [List.getElem?_append_right (Nat.le_refl _), Nat.sub_self]; rfl
  rw [h, List.getElem?_range (by omega)] at hx
  have hx' : done.length = x := Option.some.inj hx
  refine ⟨hx'.symm, ?_, by omega⟩
  have : (done ++ x :: rest).take done.length = done := List.take_left
  rw [h, List.take_range, hx'] at this
  rw [show min x m = x by omega] at this
  exact this.symm
abbrev AsB : M Fl := (fPutK 4 (fVar 5) (fOp2 oSub (rVal (fCall m_count (aCons (fVar 2) (aCons (fVar 5) aNil)))) (rVal (fCallB cSum (aCons (rVal (mBind (nLc (ftN 6) (iRg rg3 (aCons (rVal (fOp2 oAdd (rVar 5) (rVal (fLit (.int 2))))) (aCons (rVal (fOp2 oAdd (rVar 2) (rVal (fLit (.int 1))))) (aCons (rVal (fLit (.int 2))) aNil)))) (cB (fCall m_holds (aCons (fVar 0) (aCons (fVar 3) (aCons (fVar 5) (aCons (fVar 6) aNil)))))) (fOp2 oIx (rVar 4) (rVar 6)) [6]) fun ds => mRet (.lst ds))) aNil)))))
theorem int_nd (a : Nat) (b : Int) : oSub (nD a) (.int b) = some (.int ((a : Int) - b)) := (rfl)
theorem small_pow {n : Nat} (h : n < 20000) : n + 1 < 2 ^ 200 := by
  have : 20001 < 2 ^ 200 := by decide
  omega
def zI (h : Nat → Nat → Bool) (n : Nat) (j : Nat) : Dt := .int (sz h n j)
theorem len_rev (i : Nat) : (List.range i).reverse.length = i := by simp
/-- h tells, up to N, which rooms hold which pieces -/
def HoldIs (p : Nat) (l : Option Nat) (N : Nat) (h : Nat → Nat → Bool) : Prop := ∀ k r, k ≤ N → r ≤ N → hold p l k r = h k r
section
variable {p n m N : Nat} {d : Dt} {l : Option Nat} {h : Nat → Nat → Bool}
theorem as_turn (H : HoldIs p l N h) (hN : n ≤ N) (hp : FitP p) (hl : FitL l) (hn : n < 18000) {i : Nat} (hi : 2 * i ≤ n) (o5 : Option Sl) (w : Wd) :
    AsB [some (.fr (nD p)), some (.fr d), some (.fr (nD n)), some (.fr (lD l)), some (.owK ((List.range i).map (kN n)) ((List.range i).map (zI h n))), some (.fr (nD (n - 2 * i))), none] w
      = some (.nx, [some (.fr (nD p)), some (.fr d), some (.fr (nD n)), some (.fr (lD l)), some (.owK ((List.range (i + 1)).map (kN n)) ((List.range (i + 1)).map (zI h n))), some (.fr (nD (n - 2 * i))), none], w) := by
  have hc := count_ok (n := n) (k := n - 2 * i) (by omega) w
  have hr := rg_up (n := n) (i := i) (by omega) hi
  have h2 : oAdd (nD (n - 2 * i)) (.int 2) = some (nD (n - 2 * i + 2)) := rfl
  have h3 : oAdd (nD n) (.int 1) = some (nD (n + 1)) := rfl
  have c := nLc_on (ft := ftN 6) (fi := iRg rg3 (aCons (rVal (fOp2 oAdd (rVar 5) (rVal (fLit (.int 2))))) (aCons (rVal (fOp2 oAdd (rVar 2) (rVal (fLit (.int 1))))) (aCons (rVal (fLit (.int 2))) aNil)))) (fc := cB (fCall m_holds (aCons (fVar 0) (aCons (fVar 3) (aCons (fVar 5) (aCons (fVar 6) aNil)))))) (fe := fOp2 oIx (rVar 4) (rVar 6)) (vs := [6])
    (ρ := [some (.fr (nD p)), some (.fr d), some (.fr (nD n)), some (.fr (lD l)), some (.owK ((List.range i).map (kN n)) ((List.range i).map (zI h n))), some (.fr (nD (n - 2 * i))), none])
    (ρ1 := [some (.fr (nD p)), some (.fr d), some (.fr (nD n)), some (.fr (lD l)), some (.owK ((List.range i).map (kN n)) ((List.range i).map (zI h n))), some (.fr (nD (n - 2 * i))), none])
    (ρ0 := [some (.fr (nD p)), some (.fr d), some (.fr (nD n)), some (.fr (lD l)), some (.owK ((List.range i).map (kN n)) ((List.range i).map (zI h n))), some (.fr (nD (n - 2 * i))), none])
    (w := w) (w1 := w) (List.range i).reverse (fun j => nD (n - 2 * j)) (fun j => h (n - 2 * i) (n - 2 * j)) (zI h n)
    (by simp [q_bind, h2, h3, hr]) rfl (fun j hj => by
      have hj' : j < i := by simpa using hj
      have hh := holds_ok (p := p) (r := n - 2 * j) (k := ((n - 2 * i : Nat) : Int)) hp hl (small_pow (by omega)) w
      have hh' : m_holds [nD p, lD l, nD (n - 2 * i), nD (n - 2 * j)] w = some (.bl (h (n - 2 * i) (n - 2 * j)), w) := by rw [← H _ _ (by omega) (by omega)]; exact hh
      refine ⟨_, rfl, ?_, fun _ => ?_, rfl⟩
      · simp [q_bind, hh']
      · have hg : oIx (.dct ((List.range i).map (kN n)) ((List.range i).map (zI h n))) (nD (n - 2 * j)) = some (zI h n j) := getN (zI h n) hj' (by omega)
        simp [q_bind, hg]) (by rw [len_rev]; omega)
  have hs : cSum [.lst (((List.range i).reverse.filter fun j => h (n - 2 * i) (n - 2 * j)).map (zI h n))] = some (.int (((List.range i).filter fun j => h (n - 2 * i) (n - 2 * j)).map (sz h n)).sum) := by
    have e : (((List.range i).reverse.filter fun j => h (n - 2 * i) (n - 2 * j)).map (zI h n)) = ((((List.range i).reverse.filter fun j => h (n - 2 * i) (n - 2 * j)).map (sz h n)).map Dt.int) := by rw [List.map_map]; rfl
    rw [e, sum_ints, sum_rev]
  have hk : asK (nD (n - 2 * i)) = some (kN n i) := rfl
  have hlt : decide (((List.range i).map (kN n)).length < sizeLine) = true := by rw [List.length_map, List.length_range, sizeLine_eq]; exact decide_eq_true (by omega)
  have e1 : putKs ((List.range i).map (kN n)) (kN n i) = (List.range (i + 1)).map (kN n) := by rw [putKs_new (kN_notin hi), List.range_succ, List.map_append]; rfl
  have e2 : putKd ((List.range i).map (kN n)) ((List.range i).map (zI h n)) (kN n i) (.int ((cnt n (n - 2 * i) : Int) - (((List.range i).filter fun j => h (n - 2 * i) (n - 2 * j)).map (sz h n)).sum)) = (List.range (i + 1)).map (zI h n) := by
    rw [putKd_new (kN_notin hi), List.range_succ, List.map_append, ← sz_eq]; rfl
  have hv : (fOp2 oSub (rVal (fCall m_count (aCons (fVar 2) (aCons (fVar 5) aNil)))) (rVal (fCallB cSum (aCons (rVal (mBind (nLc (ftN 6) (iRg rg3 (aCons (rVal (fOp2 oAdd (rVar 5) (rVal (fLit (.int 2))))) (aCons (rVal (fOp2 oAdd (rVar 2) (rVal (fLit (.int 1))))) (aCons (rVal (fLit (.int 2))) aNil)))) (cB (fCall m_holds (aCons (fVar 0) (aCons (fVar 3) (aCons (fVar 5) (aCons (fVar 6) aNil)))))) (fOp2 oIx (rVar 4) (rVar 6)) [6]) fun ds => mRet (.lst ds))) aNil))))
      [some (.fr (nD p)), some (.fr d), some (.fr (nD n)), some (.fr (lD l)), some (.owK ((List.range i).map (kN n)) ((List.range i).map (zI h n))), some (.fr (nD (n - 2 * i))), none] w = some (.int ((cnt n (n - 2 * i) : Int) - (((List.range i).filter fun j => h (n - 2 * i) (n - 2 * j)).map (sz h n)).sum), [some (.fr (nD p)), some (.fr d), some (.fr (nD n)), some (.fr (lD l)), some (.owK ((List.range i).map (kN n)) ((List.range i).map (zI h n))), some (.fr (nD (n - 2 * i))), none], w) := by
    generalize (((List.range i).reverse.filter fun j => h (n - 2 * i) (n - 2 * j)).map (zI h n)) = X at c hs
    simp [q_bind, hc, -u_lc, c, hs, int_nd]
  rw [AsB, u_putK, q_bind, hv, oB_some, q_bind, isOwK_at (i := 4) rfl, oB_some, q_bind, v_fVar]
  simp only [List.getElem?_cons_succ, List.getElem?_cons_zero, fvO_fr, oB_some]
  rw [mPutK_at (i := 4) rfl hk (by rw [List.length_map, List.length_range]; omega), e1, e2]
  rfl
theorem all_sizes_ok (H : HoldIs p l N h) (hN : n ≤ N) (hp : FitP p) (hl : FitL l) (hd : ∀ w, m_length [nD p, d] w = some (lD l, w)) (hn : n < 18000) (hm : Halfs n m) (w : Wd) :
    m_all_sizes [nD p, d, nD n] w = some (.dct ((List.range m).map (kN n)) ((List.range m).map (zI h n)), w) := by
  obtain ⟨ρ', e, ⟨_, o5, hρ⟩⟩ := loop_rel (ft := ftN 5) (fb := AsB) (w := w) (fun j => nD (n - 2 * j)) (fun done rest ρ => done ++ rest = List.range m ∧ ∃ o5, ρ = [some (.fr (nD p)), some (.fr d), some (.fr (nD n)), some (.fr (lD l)), some (.owK (done.map (kN n)) (done.map (zI h n))), o5, none])
    (List.range m) [] [some (.fr (nD p)), some (.fr d), some (.fr (nD n)), some (.fr (lD l)), some (.owK [] []), none, none] ⟨rfl, none, rfl⟩ (fun done x rest ρ ⟨h1, o5, h2⟩ => by
      obtain ⟨a1, a2, a3⟩ := range_split h1
      subst h2
      have hx : 2 * x ≤ n := by unfold Halfs at hm; omega
      have t := as_turn (d := d) H hN hp hl hn hx o5 w
      rw [← a2] at t
      refine ⟨_, _, rfl, .inl t, by rw [List.append_assoc]; exact h1, some (.fr (nD (n - 2 * x))), ?_⟩
      rw [List.range_succ, ← a2])
  have hr := rg_main (n := n) (m := m) (by omega) hm
  subst hρ
  rw [List.nil_append] at e
  have f1 : (fSet 3 (fCall m_length (aCons (fVar 0) (aCons (fVar 1) aNil)))) (env0 7 [nD p, d, nD n]) w = some (.nx, [some (.fr (nD p)), some (.fr d), some (.fr (nD n)), some (.fr (lD l)), none, none, none], w) := by
    simp [env0, q_bind, hd]
  have f2 : (fSetNK 4 nK0) [some (.fr (nD p)), some (.fr d), some (.fr (nD n)), some (.fr (lD l)), none, none, none] w = some (.nx, [some (.fr (nD p)), some (.fr d), some (.fr (nD n)), some (.fr (lD l)), some (.owK [] []), none, none], w) := rfl
  have f3 : (fFor (ftN 5) (iRg rg3 (aCons (rVar 2) (aCons (rVal (fOp1 oNeg (rVal (fLit (.int 1))))) (aCons (rVal (fOp1 oNeg (rVal (fLit (.int 2))))) aNil)))) AsB) [some (.fr (nD p)), some (.fr d), some (.fr (nD n)), some (.fr (lD l)), some (.owK [] []), none, none] w = some (.nx, [some (.fr (nD p)), some (.fr d), some (.fr (nD n)), some (.fr (lD l)), some (.owK ((List.range m).map (kN n)) ((List.range m).map (zI h n))), o5, none], w) := by
    rw [u_for, q_bind, u_rg]
    simp [q_bind, -u_for, hr]
    exact e
  unfold m_all_sizes
  rw [u_run]
  unfold F_all_sizes
  rw [seq_nx f1, seq_nx f2, seq_nx f3]
  simp [q_bind]
end
end Lw.T

end
section
set_option Elab.async false
set_option linter.all false
set_option maxRecDepth 100000
set_option maxHeartbeats 4000000
namespace Lw.T
open PySem PySem.Spec L2 Lw Dg
theorem prL_map {α : Type} (k : α → Key) (f : α → Dt) (xs : List α) : prL (xs.map k) (xs.map f) = xs.map fun x => .tup [kD (k x), f x] := by
  unfold prL
  rw [List.zip_map', List.map_map]; rfl
@[simp] theorem items_dct (ks : List Key) (vs : List Dt) : itemsD (.dct ks vs) = some (prL ks vs) := (rfl)
theorem kD_kN (n j : Nat) : kD (kN n j) = nD (n - 2 * j) := (rfl)
theorem int_gt (a b : Int) : oGt (.int a) (.int b) = some (.bl (decide (b < a))) := (rfl)
theorem int_lt (a b : Int) : oLt (.int a) (.int b) = some (.bl (decide (a < b))) := (rfl)
/-- a piece and how great it is -/
def szP (h : Nat → Nat → Bool) (n j : Nat) : Dt := .tup [nD (n - 2 * j), zI h n j]
def szB (h : Nat → Nat → Bool) (n j : Nat) : Bool := decide (0 < sz h n j)
section
variable {p n m N k : Nat} {d : Dt} {l : Option Nat} {h : Nat → Nat → Bool}
theorem sizes_ok (H : HoldIs p l N h) (hN : n ≤ N) (hp : FitP p) (hl : FitL l) (hd : ∀ w, m_length [nD p, d] w = some (lD l, w)) (hn : n < 18000) (hm : Halfs n m) (w : Wd) :
    m_sizes [nD p, d, nD n] w = some (.lst (((List.range m).filter (szB h n)).map (szP h n)), w) := by
  have ha := all_sizes_ok H hN hp hl hd hn hm w
  have c := nLc_on (ft := ftT 2 (ftsCons (ftN 4) (ftsCons (ftN 3) ftsNil))) (fi := iItemsD (fCall m_all_sizes (aCons (fVar 0) (aCons (fVar 1) (aCons (fVar 2) aNil))))) (fc := cB (fOp2 oGt (rVar 3) (rVal (fLit (.int 0))))) (fe := fTup (aCons (fVar 4) (aCons (fVar 3) aNil))) (vs := [4, 3])
    (ρ := [some (.fr (nD p)), some (.fr d), some (.fr (nD n)), none, none]) (ρ1 := [some (.fr (nD p)), some (.fr d), some (.fr (nD n)), none, none]) (ρ0 := [some (.fr (nD p)), some (.fr d), some (.fr (nD n)), none, none]) (w := w) (w1 := w)
    (List.range m) (fun j => .tup [nD (n - 2 * j), zI h n j]) (szB h n) (szP h n) (by simp [q_bind, ha, prL_map, kD_kN]) rfl (fun j hj => by
      refine ⟨[some (.fr (nD p)), some (.fr d), some (.fr (nD n)), some (.fr (zI h n j)), some (.fr (nD (n - 2 * j)))], rfl, ?_, fun _ => ?_, rfl⟩
      · have : oGt (zI h n j) (.int 0) = some (.bl (szB h n j)) := int_gt _ _
        simp [q_bind, this]
      · simp [q_bind, inLine_ok, szP]) (by rw [List.length_range]; unfold Halfs at hm; omega)
  unfold m_sizes
  rw [u_run]
  simp [F_sizes, env0, q_bind, -u_lc, c]
/-- the pieces of a room, as they are told -/
def pcs (h : Nat → Nat → Bool) (n m k : Nat) : List Nat := ((List.range m).filter fun j => szB h n j && h k (n - 2 * j)).map fun j => n - 2 * j
theorem pieces_of_ok (H : HoldIs p l N h) (hN : n ≤ N) (hk : k ≤ N) (hp : FitP p) (hl : FitL l) (hd : ∀ w, m_length [nD p, d] w = some (lD l, w)) (hn : n < 18000) (hm : Halfs n m) (w : Wd) :
    m_pieces_of [nD p, d, nD n, nD k] w = some (.tup (iD (srtI (zN (pcs h n m k)))), w) := by
  have ha := sizes_ok H hN hp hl hd hn hm w
  have c := nLc_on (ft := ftT 2 (ftsCons (ftN 6) (ftsCons (ftN 5) ftsNil))) (fi := iAny (fCall m_sizes (aCons (fVar 0) (aCons (fVar 1) (aCons (fVar 2) aNil))))) (fc := cB (fCall m_holds (aCons (fVar 0) (aCons (fVar 4) (aCons (fVar 3) (aCons (fVar 6) aNil)))))) (fe := fVar 6) (vs := [6, 5])
    (ρ := [some (.fr (nD p)), some (.fr d), some (.fr (nD n)), some (.fr (nD k)), some (.fr (lD l)), none, none]) (ρ1 := [some (.fr (nD p)), some (.fr d), some (.fr (nD n)), some (.fr (nD k)), some (.fr (lD l)), none, none]) (ρ0 := [some (.fr (nD p)), some (.fr d), some (.fr (nD n)), some (.fr (nD k)), some (.fr (lD l)), none, none]) (w := w) (w1 := w)
    ((List.range m).filter (szB h n)) (szP h n) (fun j => h k (n - 2 * j)) (fun j => nD (n - 2 * j)) (by simp [q_bind, ha]) rfl (fun j hj => by
      refine ⟨[some (.fr (nD p)), some (.fr d), some (.fr (nD n)), some (.fr (nD k)), some (.fr (lD l)), some (.fr (zI h n j)), some (.fr (nD (n - 2 * j)))], rfl, ?_, fun _ => ?_, rfl⟩
      · have hh := holds_ok (p := p) (r := n - 2 * j) (k := (k : Int)) hp hl (small_pow (by omega)) w
        have hh' : m_holds [nD p, lD l, nD k, nD (n - 2 * j)] w = some (.bl (h k (n - 2 * j)), w) := by rw [← H _ _ hk (by omega)]; exact hh
        simp [q_bind, hh']
      · simp [q_bind]) (by
        have := List.length_filter_le (szB h n) (List.range m)
        rw [List.length_range] at this
        unfold Halfs at hm; omega)
  have e : (((List.range m).filter (szB h n)).filter fun j => h k (n - 2 * j)).map (fun j => nD (n - 2 * j)) = iD (zN (pcs h n m k)) := by
    unfold pcs iD zN
    rw [List.filter_filter, List.map_map, List.map_map]
    congr 1
    refine List.filter_congr fun j _ => ?_
    rw [Bool.and_comm]
  rw [e] at c
  unfold m_pieces_of
  rw [u_run]
  simp [F_pieces_of, env0, q_bind, hd, -u_lc, c]
/-! the law's own way -/
abbrev LsB (mc : Fn) : M Fl := (fSeq (fSetLc 8 (nLc (ftN 6) (iRg rg3 (aCons (rVar 2) (aCons (rVar 7) (aCons (rVal (fOp2 oSub (rVal (fLit (.int 0))) (rVal (fLit (.int 2))))) aNil)))) (cB (fOp2 oIn (rVal (fOp2 oAdd (rVar 7) (rVal (fLit (.int 1))))) (rVal (fOp2 oIx (rVar 5) (rVar 6))))) (fOp2 oIx (rVar 4) (rVar 6)) [6]))
  (fPutK 4 (fVar 7) (fOp2 oSub (rVal (fCall mc (aCons (fVar 2) (aCons (fVar 7) aNil)))) (rVal (fCallB cSum (aCons (rVar 8) aNil))))))
def suD (p : Nat) (l : Option Nat) (n j : Nat) : Dt := .lst (iD (sup p l (n - 2 * j + 1)))
theorem in_sup (p : Nat) (l : Option Nat) (k r : Nat) : oIn (nD (k + 1)) (.lst (iD (sup p l (r + 1)))) = some (.bl (hold p l k r)) := by
  unfold nD hold
  rw [in_ints]
  rfl
theorem ls_turn (H : HoldIs p l N h) (hN : n ≤ N) (hn : n < 10000) {i : Nat} (hi : 2 * i ≤ n) (him : i < m) (hm : Halfs n m) (o6 o7 o8 : Option Sl) (w : Wd) :
    LsB m_l_count [some (.fr (nD p)), some (.fr d), some (.fr (nD n)), some (.fr (lD l)), some (.owK ((List.range i).map (kN n)) ((List.range i).map (zI h n))), some (.fr (.dct ((List.range m).map (kN n)) ((List.range m).map (suD p l n)))), o6, some (.fr (nD (n - 2 * i))), o8] w
      = some (.nx, [some (.fr (nD p)), some (.fr d), some (.fr (nD n)), some (.fr (lD l)), some (.owK ((List.range (i + 1)).map (kN n)) ((List.range (i + 1)).map (zI h n))), some (.fr (.dct ((List.range m).map (kN n)) ((List.range m).map (suD p l n)))), none, some (.fr (nD (n - 2 * i))), some (.fr (.lst (((List.range i).filter fun j => h (n - 2 * i) (n - 2 * j)).map (zI h n))))], w) := by
  have hc := l_count_ok (n := n) (k := n - 2 * i) (by omega) w
  have hr := rg_down (n := n) (i := i) (by omega) hi
  have h2 : oSub (.int 0) (.int 2) = some (.int (-2)) := rfl
  have c := nLc_on (ft := ftN 6) (fi := iRg rg3 (aCons (rVar 2) (aCons (rVar 7) (aCons (rVal (fOp2 oSub (rVal (fLit (.int 0))) (rVal (fLit (.int 2))))) aNil)))) (fc := cB (fOp2 oIn (rVal (fOp2 oAdd (rVar 7) (rVal (fLit (.int 1))))) (rVal (fOp2 oIx (rVar 5) (rVar 6))))) (fe := fOp2 oIx (rVar 4) (rVar 6)) (vs := [6])
    (ρ := [some (.fr (nD p)), some (.fr d), some (.fr (nD n)), some (.fr (lD l)), some (.owK ((List.range i).map (kN n)) ((List.range i).map (zI h n))), some (.fr (.dct ((List.range m).map (kN n)) ((List.range m).map (suD p l n)))), o6, some (.fr (nD (n - 2 * i))), o8])
    (ρ1 := [some (.fr (nD p)), some (.fr d), some (.fr (nD n)), some (.fr (lD l)), some (.owK ((List.range i).map (kN n)) ((List.range i).map (zI h n))), some (.fr (.dct ((List.range m).map (kN n)) ((List.range m).map (suD p l n)))), o6, some (.fr (nD (n - 2 * i))), o8])
    (ρ0 := [some (.fr (nD p)), some (.fr d), some (.fr (nD n)), some (.fr (lD l)), some (.owK ((List.range i).map (kN n)) ((List.range i).map (zI h n))), some (.fr (.dct ((List.range m).map (kN n)) ((List.range m).map (suD p l n)))), none, some (.fr (nD (n - 2 * i))), o8])
    (w := w) (w1 := w) (List.range i) (fun j => nD (n - 2 * j)) (fun j => h (n - 2 * i) (n - 2 * j)) (zI h n)
    (by simp [q_bind, h2, hr]) rfl (fun j hj => by
      have hj' : j < i := List.mem_range.mp hj
      refine ⟨[some (.fr (nD p)), some (.fr d), some (.fr (nD n)), some (.fr (lD l)), some (.owK ((List.range i).map (kN n)) ((List.range i).map (zI h n))), some (.fr (.dct ((List.range m).map (kN n)) ((List.range m).map (suD p l n)))), some (.fr (nD (n - 2 * j))), some (.fr (nD (n - 2 * i))), o8], rfl, ?_, fun _ => ?_, rfl⟩
      · have hg : oIx (.dct ((List.range m).map (kN n)) ((List.range m).map (suD p l n))) (nD (n - 2 * j)) = some (suD p l n j) := getN (suD p l n) (by omega) (by unfold Halfs at hm; omega)
        have hi' : oIn (nD (n - 2 * i + 1)) (suD p l n j) = some (.bl (h (n - 2 * i) (n - 2 * j))) := by rw [← H _ _ (by omega) (by omega)]; exact in_sup _ _ _ _
        simp [q_bind, hg, nd_add1, hi']
      · have hg : oIx (.dct ((List.range i).map (kN n)) ((List.range i).map (zI h n))) (nD (n - 2 * j)) = some (zI h n j) := getN (zI h n) hj' (by omega)
        simp [q_bind, hg]) (by rw [List.length_range]; omega)
  have hs : cSum [.lst (((List.range i).filter fun j => h (n - 2 * i) (n - 2 * j)).map (zI h n))] = some (.int (((List.range i).filter fun j => h (n - 2 * i) (n - 2 * j)).map (sz h n)).sum) := by
    have e : (((List.range i).filter fun j => h (n - 2 * i) (n - 2 * j)).map (zI h n)) = ((((List.range i).filter fun j => h (n - 2 * i) (n - 2 * j)).map (sz h n)).map Dt.int) := by rw [List.map_map]; rfl
    rw [e, sum_ints]
  have hk : asK (nD (n - 2 * i)) = some (kN n i) := rfl
  have e1 : putKs ((List.range i).map (kN n)) (kN n i) = (List.range (i + 1)).map (kN n) := by rw [putKs_new (kN_notin hi), List.range_succ, List.map_append]; rfl
  have e2 : putKd ((List.range i).map (kN n)) ((List.range i).map (zI h n)) (kN n i) (.int ((cnt n (n - 2 * i) : Int) - (((List.range i).filter fun j => h (n - 2 * i) (n - 2 * j)).map (sz h n)).sum)) = (List.range (i + 1)).map (zI h n) := by
    rw [putKd_new (kN_notin hi), List.range_succ, List.map_append, ← sz_eq]; rfl
  generalize hX : (((List.range i).filter fun j => h (n - 2 * i) (n - 2 * j)).map (zI h n)) = X at *
  rw [LsB, seq_nx (ρ1 := [some (.fr (nD p)), some (.fr d), some (.fr (nD n)), some (.fr (lD l)), some (.owK ((List.range i).map (kN n)) ((List.range i).map (zI h n))), some (.fr (.dct ((List.range m).map (kN n)) ((List.range m).map (suD p l n)))), none, some (.fr (nD (n - 2 * i))), some (.fr (.lst X))]) (w1 := w) (by simp [q_bind, -u_lc, c])]
  have hv : (fOp2 oSub (rVal (fCall m_l_count (aCons (fVar 2) (aCons (fVar 7) aNil)))) (rVal (fCallB cSum (aCons (rVar 8) aNil)))) [some (.fr (nD p)), some (.fr d), some (.fr (nD n)), some (.fr (lD l)), some (.owK ((List.range i).map (kN n)) ((List.range i).map (zI h n))), some (.fr (.dct ((List.range m).map (kN n)) ((List.range m).map (suD p l n)))), none, some (.fr (nD (n - 2 * i))), some (.fr (.lst X))] w
     = some (.int ((cnt n (n - 2 * i) : Int) - (((List.range i).filter fun j => h (n - 2 * i) (n - 2 * j)).map (sz h n)).sum), [some (.fr (nD p)), some (.fr d), some (.fr (nD n)), some (.fr (lD l)), some (.owK ((List.range i).map (kN n)) ((List.range i).map (zI h n))), some (.fr (.dct ((List.range m).map (kN n)) ((List.range m).map (suD p l n)))), none, some (.fr (nD (n - 2 * i))), some (.fr (.lst X))], w) := by
    simp [q_bind, hc, hs, int_nd]
  rw [u_putK, q_bind, hv, oB_some, q_bind, isOwK_at (i := 4) rfl, oB_some, q_bind, v_fVar]
  simp only [List.getElem?_cons_succ, List.getElem?_cons_zero, fvO_fr, oB_some]
  rw [mPutK_at (i := 4) rfl hk (by rw [List.length_map, List.length_range]; omega), e1, e2]
  rfl
theorem l_sizes_ok (H : HoldIs p l N h) (hN : n ≤ N) (hp : FitP p) (hl : FitL l) (hd : ∀ w, m_l_length [nD p, d] w = some (lD l, w)) (hn : n < 10000) (hm : Halfs n m) (w : Wd) :
    m_l_sizes [nD p, d, nD n] w = some (.dct ((List.range m).map (kN n)) ((List.range m).map (zI h n)), w) := by
  obtain ⟨ρ', e, ⟨_, o6, o7, o8, hρ⟩⟩ := loop_rel (ft := ftN 7) (fb := LsB m_l_count) (w := w) (fun j => nD (n - 2 * j)) (fun done rest ρ => done ++ rest = List.range m ∧ ∃ o6 o7 o8, ρ = [some (.fr (nD p)), some (.fr d), some (.fr (nD n)), some (.fr (lD l)), some (.owK (done.map (kN n)) (done.map (zI h n))), some (.fr (.dct ((List.range m).map (kN n)) ((List.range m).map (suD p l n)))), o6, o7, o8])
    (List.range m) [] [some (.fr (nD p)), some (.fr d), some (.fr (nD n)), some (.fr (lD l)), some (.owK [] []), some (.fr (.dct ((List.range m).map (kN n)) ((List.range m).map (suD p l n)))), none, none, none] ⟨rfl, none, none, none, rfl⟩ (fun done x rest ρ ⟨h1, o6, o7, o8, h2⟩ => by
      obtain ⟨a1, a2, a3⟩ := range_split h1
      subst h2
      have hx : 2 * x ≤ n := by unfold Halfs at hm; omega
      have t := ls_turn (p := p) (l := l) (d := d) H hN hn hx a3 hm o6 o7 o8 w
      rw [← a2] at t
      refine ⟨_, _, rfl, .inl t, by rw [List.append_assoc]; exact h1, none, some (.fr (nD (n - 2 * x))), some (.fr (.lst ((done.filter fun j => h (n - 2 * x) (n - 2 * j)).map (zI h n)))), ?_⟩
      rw [List.range_succ, ← a2])
  have hr := rg_main (n := n) (m := m) (by omega) hm
  subst hρ
  rw [List.nil_append] at e
  have q1 : oSub (.int 0) (.int 1) = some (.int (-1)) := rfl
  have q2 : oSub (.int 0) (.int 2) = some (.int (-2)) := rfl
  have c := nLc_all (ft := ftN 6) (fi := iRg rg3 (aCons (rVar 2) (aCons (rVal (fOp2 oSub (rVal (fLit (.int 0))) (rVal (fLit (.int 1))))) (aCons (rVal (fOp2 oSub (rVal (fLit (.int 0))) (rVal (fLit (.int 2))))) aNil)))) (fe := fTup (aCons (fVar 6) (aCons (fCall m_l_support (aCons (fVar 0) (aCons (fVar 3) (aCons (fOp2 oAdd (rVar 6) (rVal (fLit (.int 1)))) aNil)))) aNil))) (vs := [6])
    (ρ := [some (.fr (nD p)), some (.fr d), some (.fr (nD n)), some (.fr (lD l)), some (.owK [] []), none, none, none, none]) (ρ1 := [some (.fr (nD p)), some (.fr d), some (.fr (nD n)), some (.fr (lD l)), some (.owK [] []), none, none, none, none]) (ρ0 := [some (.fr (nD p)), some (.fr d), some (.fr (nD n)), some (.fr (lD l)), some (.owK [] []), none, none, none, none]) (w := w) (w1 := w)
    (List.range m) (fun j => nD (n - 2 * j)) (fun j => .tup [kD (kN n j), suD p l n j]) (by simp [q_bind, q1, q2, hr]) rfl (fun j hj => by
      refine ⟨[some (.fr (nD p)), some (.fr d), some (.fr (nD n)), some (.fr (lD l)), some (.owK [] []), none, some (.fr (nD (n - 2 * j))), none, none], rfl, ?_, rfl⟩
      have hs := l_support_ok (p := p) (n := n - 2 * j + 1) (l := l) hp hl (small_pow (by omega)) (by
        have h1 := dg_length (p := p) (k := 15) (n := n - 2 * j + 1) (l := l) (by omega) hl
        have h2 := nz_parts' p (n - 2 * j + 1) l
        have h3 : nz (dg p l (n - 2 * j + 1)) ≤ (dg p l (n - 2 * j + 1)).length := List.length_filter_le _ _
        have h4 : nz (parts p l (n - 2 * j + 1)).dropLast ≤ nz (parts p l (n - 2 * j + 1)) := by
          unfold nz; exact List.Sublist.length_le ((List.dropLast_sublist _).filter _)
        omega) w
      simp [q_bind, inLine_ok, nd_add1, hs, kD_kN, suD]) (by rw [List.length_range]; unfold Halfs at hm; omega)
  have hdk : ((List.range m).map (kN n)).Nodup := kN_nodup (by unfold Halfs at hm; omega)
  have f4 : (fFor (ftN 7) (iRg rg3 (aCons (rVar 2) (aCons (rVal (fOp2 oSub (rVal (fLit (.int 0))) (rVal (fLit (.int 1))))) (aCons (rVal (fOp2 oSub (rVal (fLit (.int 0))) (rVal (fLit (.int 2))))) aNil)))) (LsB m_l_count)) [some (.fr (nD p)), some (.fr d), some (.fr (nD n)), some (.fr (lD l)), some (.owK [] []), some (.fr (.dct ((List.range m).map (kN n)) ((List.range m).map (suD p l n)))), none, none, none] w = some (.nx, [some (.fr (nD p)), some (.fr d), some (.fr (nD n)), some (.fr (lD l)), some (.owK ((List.range m).map (kN n)) ((List.range m).map (zI h n))), some (.fr (.dct ((List.range m).map (kN n)) ((List.range m).map (suD p l n)))), o6, o7, o8], w) := by
    rw [u_for, q_bind]
    simp [q_bind, -u_for, q1, q2, hr]
    exact e
  unfold m_l_sizes
  rw [u_run]
  unfold F_l_sizes
  rw [seq_nx (ρ1 := [some (.fr (nD p)), some (.fr d), some (.fr (nD n)), some (.fr (lD l)), some (.owK [] []), none, none, none, none]) (w1 := w) (by simp [env0, q_bind, hd]),
    seq_nx (ρ1 := [some (.fr (nD p)), some (.fr d), some (.fr (nD n)), some (.fr (lD l)), some (.owK [] []), some (.fr (.dct ((List.range m).map (kN n)) ((List.range m).map (suD p l n)))), none, none, none]) (w1 := w) (by
      have hq : (rVal (mBind (nLc (ftN 6) (iRg rg3 (aCons (rVar 2) (aCons (rVal (fOp2 oSub (rVal (fLit (.int 0))) (rVal (fLit (.int 1))))) (aCons (rVal (fOp2 oSub (rVal (fLit (.int 0))) (rVal (fLit (.int 2))))) aNil)))) (mRet true) (fTup (aCons (fVar 6) (aCons (fCall m_l_support (aCons (fVar 0) (aCons (fVar 3) (aCons (fOp2 oAdd (rVar 6) (rVal (fLit (.int 1)))) aNil)))) aNil))) [6]) fun ds => mRet (.lst ds))) [some (.fr (nD p)), some (.fr d), some (.fr (nD n)), some (.fr (lD l)), some (.owK [] []), none, none, none, none] w
          = some (.val (.lst ((List.range m).map fun j => .tup [kD (kN n j), suD p l n j])), [some (.fr (nD p)), some (.fr d), some (.fr (nD n)), some (.fr (lD l)), some (.owK [] []), none, none, none, none], w) := by
        simp [q_bind, -u_lc, c]
      have hm' := mergeD_new (kN n) (suD p l n) (List.range m) [] [] hdk
      rw [List.nil_append, List.nil_append] at hm'
      rw [u_set, q_bind, q_bind, u_dictP hq (v_rd1 _ _) (pairsD_on (kN n) (suD p l n) _), hm']
      simp),
    seq_nx (ρ1 := [some (.fr (nD p)), some (.fr d), some (.fr (nD n)), some (.fr (lD l)), some (.owK ((List.range m).map (kN n)) ((List.range m).map (zI h n))), some (.fr (.dct ((List.range m).map (kN n)) ((List.range m).map (suD p l n)))), o6, o7, o8]) (w1 := w) (by
      exact f4)]
  simp [q_bind]
theorem l_sizes_v2_is : m_l_sizes_v2 = m_l_sizes := rfl
end
end Lw.T

end
section
set_option Elab.async false
set_option linter.all false
set_option maxRecDepth 100000
set_option maxHeartbeats 4000000
namespace Dg
/-! ### what a dict holds, as pairs -/
section
variable {α β : Type} [DecidableEq α]
def aGet : List (α × β) → α → Option β
  | [], _ => none
  | p :: ps, k => if p.1 = k then some p.2 else aGet ps k
def aSet : List (α × β) → α → β → List (α × β)
  | [], k, v => [(k, v)]
  | p :: ps, k, v => if p.1 = k then (k, v) :: ps else p :: aSet ps k v
end
end Dg
namespace Lw.T
open PySem PySem.Spec L2 Lw Dg
section
variable {α β : Type} [DecidableEq α] {c : α → Key} {f : β → Dt}
def eK (c : α → Key) (A : List (α × β)) : List Key := A.map fun q => c q.1
def eV (f : β → Dt) (A : List (α × β)) : List Dt := A.map fun q => f q.2
theorem getK_e (hc : ∀ a b, c a = c b → a = b) (k : α) : ∀ A : List (α × β), getK (eK c A) (eV f A) (c k) = (aGet A k).map f
  | [] => rfl
  | p :: ps => by
    show (if c p.1 = c k then some (f p.2) else getK (eK c ps) (eV f ps) (c k)) = (if p.1 = k then some p.2 else aGet ps k).map f
    by_cases h : p.1 = k
    · rw [if_pos (congrArg c h), if_pos h]; rfl
    · rw [if_neg fun e => h (hc _ _ e), if_neg h, getK_e hc k ps]
/-- no key stands twice -/
def Once (A : List (α × β)) : Prop := (A.map (·.1)).Nodup
theorem aSet_keys (k : α) (v : β) : ∀ A : List (α × β), (aSet A k v).map (·.1) = if k ∈ A.map (·.1) then A.map (·.1) else A.map (·.1) ++ [k]
  | [] => rfl
  | p :: ps => by
    have ih := aSet_keys k v ps
    show ((if p.1 = k then (k, v) :: ps else p :: aSet ps k v).map (·.1)) = _
    by_cases h : p.1 = k
    · rw [if_pos h, if_pos (by simp [h])]
      show k :: ps.map (·.1) = p.1 :: ps.map (·.1)
      rw [h]
    · rw [if_neg h]
      show p.1 :: (aSet ps k v).map (·.1) = _
      rw [ih]
      by_cases h2 : k ∈ ps.map (·.1)
      · rw [if_pos h2, if_pos (by simp only [List.map_cons, List.mem_cons]; exact .inr h2)]; rfl
      · rw [if_neg h2, if_neg (by
          simp only [List.map_cons, List.mem_cons, not_or]
          exact ⟨fun e => h e.symm, h2⟩)]; rfl
theorem aSet_once {A : List (α × β)} (h : Once A) (k : α) (v : β) : Once (aSet A k v) := by
  unfold Once
  rw [aSet_keys]
  split
  · exact h
  · rename_i n
    rw [List.nodup_append]
    exact ⟨h, by simp, fun a ha b hb e => n (by rw [List.mem_singleton] at hb; subst hb; subst e; exact ha)⟩
theorem any_e (hc : ∀ a b, c a = c b → a = b) (k : α) (A : List (α × β)) : ((eK c A).any fun q => decide (q = c k)) = decide (k ∈ A.map (·.1)) := by
  rw [Bool.eq_iff_iff, List.any_eq_true, decide_eq_true_iff]
  constructor
  · rintro ⟨q, hq, e⟩
    obtain ⟨p, hp, rfl⟩ := List.mem_map.mp hq
    exact List.mem_map.mpr ⟨p, hp, hc _ _ (of_decide_eq_true e)⟩
  · intro h
    obtain ⟨p, hp, rfl⟩ := List.mem_map.mp h
    exact ⟨c p.1, List.mem_map.mpr ⟨p, hp, rfl⟩, decide_eq_true rfl⟩
theorem putKs_e (hc : ∀ a b, c a = c b → a = b) (k : α) (v : β) (A : List (α × β)) : putKs (eK c A) (c k) = eK c (aSet A k v) := by
  have e : ∀ B : List (α × β), eK c B = (B.map (·.1)).map c := fun B => by unfold eK; rw [List.map_map]; rfl
  unfold putKs
  rw [any_e hc]
  rw [e (aSet A k v), aSet_keys]
  by_cases h : k ∈ A.map (·.1)
  · rw [if_pos (decide_eq_true h), if_pos h, e]
  · rw [if_neg (by simpa using h), if_neg h, e, List.map_append]; rfl
theorem setK_e (hc : ∀ a b, c a = c b → a = b) (k : α) (v : β) : ∀ A : List (α × β), Once A → k ∈ A.map (·.1) → setK (eK c A) (eV f A) (c k) (f v) = eV f (aSet A k v)
  | [], _, h => by cases h
  | p :: ps, ho, h => by
    have ho' : p.1 ∉ ps.map (·.1) ∧ Once ps := by unfold Once at ho; rw [List.map_cons, List.nodup_cons] at ho; exact ho
    show (if c p.1 = c k then f v else f p.2) :: setK (eK c ps) (eV f ps) (c k) (f v) = eV f (if p.1 = k then (k, v) :: ps else p :: aSet ps k v)
    have none' : ∀ B : List (α × β), k ∉ B.map (·.1) → setK (eK c B) (eV f B) (c k) (f v) = eV f B := by
      intro B
      induction B with
      | nil => intro _; rfl
      | cons q B ih =>
        intro hB
        simp only [List.map_cons, List.mem_cons, not_or] at hB
        show (if c q.1 = c k then f v else f q.2) :: setK (eK c B) (eV f B) (c k) (f v) = f q.2 :: eV f B
        rw [if_neg fun e => hB.1 (hc _ _ e).symm, ih hB.2]
    by_cases h1 : p.1 = k
    · rw [if_pos (congrArg c h1), if_pos h1, none' ps (h1 ▸ ho'.1)]; rfl
    · rw [if_neg fun e => h1 (hc _ _ e), if_neg h1]
      have h2 : k ∈ ps.map (·.1) := by
        rcases List.mem_cons.mp h with e | e
        · exact absurd e.symm h1
        · exact e
      rw [setK_e hc k v ps ho'.2 h2]; rfl
theorem putKd_e (hc : ∀ a b, c a = c b → a = b) (k : α) (v : β) {A : List (α × β)} (ho : Once A) : putKd (eK c A) (eV f A) (c k) (f v) = eV f (aSet A k v) := by
  unfold putKd
  rw [any_e hc]
  by_cases h : k ∈ A.map (·.1)
  · rw [if_pos (decide_eq_true h), setK_e hc k v A ho h]
  · rw [if_neg (by simpa using h)]
    have app : ∀ B : List (α × β), k ∉ B.map (·.1) → aSet B k v = B ++ [(k, v)] := by
      intro B
      induction B with
      | nil => intro _; rfl
      | cons q B ih =>
        intro hB
        simp only [List.map_cons, List.mem_cons, not_or] at hB
        show (if q.1 = k then (k, v) :: B else q :: aSet B k v) = q :: (B ++ [(k, v)])
        rw [if_neg fun e => hB.1 e.symm, ih hB.2]
    rw [app A h]
    unfold eV
    rw [List.map_append]; rfl
end
/-- whole numbers from 0 on as keys -/
def nK (k : Nat) : Key := .inl (k : Int)
theorem nK_inj (a b : Nat) (h : nK a = nK b) : a = b := by unfold nK at h; injection h with h; omega
theorem asK_nD (k : Nat) : asK (nD k) = some (nK k) := (rfl)
theorem kD_nK (k : Nat) : kD (nK k) = nD k := (rfl)
/-- d as data -/
def adD (A : List (Nat × Int)) : Dt := .dct (eK nK A) (eV Dt.int A)
theorem ix_ad (A : List (Nat × Int)) (k : Nat) : oIx (adD A) (nD k) = (aGet A k).map Dt.int := getK_e nK_inj k A
theorem get_ad (A : List (Nat × Int)) (k : Nat) (v : Int) : oGet (adD A) (nD k) (.int v) = some (.int ((aGet A k).getD v)) := by
  show (some (nK k)).map (fun q => (getK (eK nK A) (eV Dt.int A) q).getD (.int v)) = _
  rw [Option.map_some, getK_e nK_inj]
  cases aGet A k <;> rfl
end Lw.T

end
section
set_option Elab.async false
set_option linter.all false
set_option maxRecDepth 100000
set_option maxHeartbeats 4000000
namespace Dg
theorem once_le : ∀ (B : Nat) (xs : List Nat), xs.Nodup → (∀ x ∈ xs, x < B) → xs.length ≤ B
  | 0, [], _, _ => Nat.le_refl _
  | 0, x :: xs, _, h => absurd (h x (by simp)) (by omega)
  | B + 1, xs, hn, h => by
    have h1 := once_le B (xs.filter (· ≠ B)) (hn.filter _) fun x hx => by
      have h2 := h x (List.mem_filter.mp hx).1
      have h3 : x ≠ B := by simpa using (List.mem_filter.mp hx).2
      omega
    have h4 : ∀ ys : List Nat, ys.Nodup → ys.length ≤ (ys.filter (· ≠ B)).length + 1 := by
      intro ys
      induction ys with
      | nil => intro _; simp
      | cons y ys ih =>
        intro hy
        rw [List.nodup_cons] at hy
        by_cases e : y = B
        · subst e
          have : ys.filter (· ≠ y) = ys := List.filter_eq_self.mpr fun a ha => by
            have : a ≠ y := fun z => hy.1 (z ▸ ha)
            simpa using this
          rw [List.filter_cons_of_neg (by simp), this]; simp
        · rw [List.filter_cons_of_pos (by simpa using e)]
          have := ih hy.2
          simp only [List.length_cons]; omega
    have := h4 xs hn
    omega
end Dg
namespace Lw.T
open PySem PySem.Spec L2 Lw Dg
/-- pairs with keys up to n, each once -/
def FitA (n : Nat) (A : List (Nat × Int)) : Prop := Once A ∧ ∀ q ∈ A, q.1 ≤ n
theorem FitA.nil (n : Nat) : FitA n [] := ⟨List.nodup_nil, fun _ h => by cases h⟩
theorem FitA.set {n k : Nat} {v : Int} {A : List (Nat × Int)} (h : FitA n A) (hk : k ≤ n) : FitA n (aSet A k v) := by
  refine ⟨aSet_once h.1 k v, fun q hq => ?_⟩
  have h1 : q.1 ∈ (aSet A k v).map (·.1) := List.mem_map.mpr ⟨q, hq, rfl⟩
  rw [aSet_keys] at h1
  have h2 : q.1 ∈ A.map (·.1) ∨ q.1 = k := by
    split at h1
    · exact .inl h1
    · rcases List.mem_append.mp h1 with z | z
      · exact .inl z
      · exact .inr (List.mem_singleton.mp z)
  rcases h2 with z | z
  · obtain ⟨r, hr, e⟩ := List.mem_map.mp z
    rw [← e]; exact h.2 r hr
  · omega
theorem FitA.len {n : Nat} {A : List (Nat × Int)} (h : FitA n A) : A.length ≤ n + 1 := by
  have h1 : (A.map (·.1)).Nodup := h.1
  have := once_le (n + 1) (A.map (·.1)) h1 fun x hx => by
    obtain ⟨q, hq, rfl⟩ := List.mem_map.mp hx
    have := h.2 q hq
    omega
  rwa [List.length_map] at this
/-- A[k] = v in a slot -/
theorem put_ad {ρ : En} {w : Wd} {i k n : Nat} {v : Int} {A : List (Nat × Int)} (h : ρ[i]? = some (some (.owK (eK nK A) (eV Dt.int A)))) (hA : FitA n A) (hn : n < 10000) :
    mPutK i (.int v) (nD k) ρ w = some (.nx, ρ.set i (some (.owK (eK nK (aSet A k v)) (eV Dt.int (aSet A k v)))), w) := by
  rw [mPutK_at h (asK_nD k) (by have := hA.len; unfold eK; rw [List.length_map]; omega), putKs_e nK_inj k v, putKd_e nK_inj k v hA.1]
theorem in_two (k : Nat) (a b : Int) : oIn (nD k) (.tup [.int a, .int b]) = some (.bl (decide ((k : Int) = a) || decide ((k : Int) = b))) := by
  have e : inV (V.int (k : Int)) [.int a, .int b] = (decide ((k : Int) = a) || decide ((k : Int) = b)) := by
    show (((a == (k : Int)) || ((b == (k : Int)) || false))) = _
    rw [Bool.or_false, Bool.eq_iff_iff, Bool.or_eq_true_iff, Bool.or_eq_true_iff, beq_iff_eq, beq_iff_eq, decide_eq_true_iff, decide_eq_true_iff]
    exact ⟨fun h => h.imp Eq.symm Eq.symm, fun h => h.imp Eq.symm Eq.symm⟩
  show some (Dt.bl (inV (V.int (k : Int)) [.int a, .int b])) = _
  rw [e]
theorem l_sup_small {p s : Nat} {l : Option Nat} (hp : FitP p) (hl : FitL l) (hs : s < 10000) (w : Wd) : m_l_support [nD p, lD l, nD (s + 1)] w = some (.lst (iD (sup p l (s + 1))), w) :=
  l_support_ok hp hl (small_pow (by omega)) (by
    have h1 := dg_length (p := p) (k := 15) (n := s + 1) (l := l) (by omega) hl
    have h2 := nz_parts' p (s + 1) l
    have h3 : nz (dg p l (s + 1)) ≤ (dg p l (s + 1)).length := List.length_filter_le _ _
    have h4 : nz (parts p l (s + 1)).dropLast ≤ nz (parts p l (s + 1)) := by
      unfold nz; exact List.Sublist.length_le ((List.dropLast_sublist _).filter _)
    omega) w
theorem rg1_R {m : Nat} (h : m < 2 ^ 30) : rg1 [nD m] = some ((List.range m).map nD) := by rw [rg1_nD h, ← List.range_eq_range']
/-- k, k + 2 .. below n -/
def upL (k n : Nat) : List Nat := (List.range ((n + 1 - k) / 2)).map fun j => k + 2 * j
theorem rg_upL {k n : Nat} (hn : n < 2 ^ 30) (hk : k < 2 ^ 30) : rg3 [nD k, nD n, .int 2] = some ((upL k n).map nD) := by
  unfold nD upL
  rw [rg3_ok (n := (n + 1 - k) / 2) (by omega) (by omega) (by decide) (by decide) (by omega) (by unfold Builtin.Range.rangeSize; simp; omega)]
  congr 1
  unfold rgDc
  rw [List.map_map]
  refine List.map_congr_left fun j hj => ?_
  show Dt.int ((k : Int) + (j : Int) * 2) = Dt.int ((k + 2 * j : Nat) : Int)
  congr 1
  omega
theorem mem_upL {k n s : Nat} (h : s ∈ upL k n) : k ≤ s ∧ s < n ∧ (s - k) % 2 = 0 := by
  obtain ⟨j, hj, rfl⟩ := List.mem_map.mp h
  have := List.mem_range.mp hj
  omega
end Lw.T

end
section
set_option Elab.async false
set_option linter.all false
set_option maxRecDepth 100000
set_option maxHeartbeats 4000000
namespace Dg
/-! ### which rooms hold which pieces, by tables -/
def tlF : Nat → Nat → Nat → List Nat
  | 0, _, _ => []
  | f + 1, p, r => if r = 0 then [] else if p < 2 then [r] else (r % p) :: tlF f p (r / p)
theorem tlF_is (p : Nat) : ∀ f r, r ≤ f → tlF f p r = tl p r
  | 0, r, h => by
    have : r = 0 := by omega
    subst this; rw [tl_zero]; rfl
  | f + 1, r, h => by
    unfold tlF
    by_cases h0 : r = 0
    · subst h0; rw [if_pos rfl, tl_zero]
    · rw [if_neg h0]
      by_cases hp : p < 2
      · rw [if_pos hp, tl_small (by omega) hp]
      · rw [if_neg hp, tl_step (by omega) (by omega), tlF_is p f (r / p)]
        have : r / p < r := Nat.div_lt_self (by omega) (by omega)
        omega
def partsF (p : Nat) (l : Option Nat) (n : Nat) : List Nat := match l with
  | none => [n]
  | some l => (n % l) :: mulFrom p l (tlF n p (n / l))
theorem partsF_is (p : Nat) (l : Option Nat) (n : Nat) : partsF p l n = parts p l n := by
  cases l with
  | none => rfl
  | some l =>
    rw [parts_some]
    show (n % l) :: mulFrom p l (tlF n p (n / l)) = _
    rw [tlF_is p n (n / l) (Nat.div_le_self _ _)]
end Dg
namespace Lw.T
open PySem PySem.Spec L2 Lw Dg
def supF (p : Nat) (l : Option Nat) (n : Nat) : List Int := (partsF p l n).dropLast.foldl fQ [((partsF p l n).getLastD 0 : Int)]
theorem supF_mem {p n : Nat} {l : Option Nat} {x : Int} : x ∈ supF p l n ↔ x ∈ sup p l n := by
  unfold supF sup
  rw [partsF_is, (srtI_perm _).mem_iff]
def tbl (T : List Nat) (k r : Nat) : Bool := (T.getD r 0).testBit k
def tabOk (p : Nat) (l : Option Nat) (N : Nat) (T : List Nat) : Bool := (List.range (N + 1)).all fun r => (List.range (N + 1)).all fun k => tbl T k r == (supF p l (r + 1)).contains ((k : Int) + 1)
theorem tab_hold {p N : Nat} {l : Option Nat} {T : List Nat} (h : tabOk p l N T = true) : HoldIs p l N (tbl T) := fun k r hk hr => by
  unfold tabOk at h
  rw [List.all_eq_true] at h
  have h1 := h r (List.mem_range.mpr (by omega))
  rw [List.all_eq_true] at h1
  have h2 := beq_iff_eq.mp (h1 k (List.mem_range.mpr (by omega)))
  rw [h2]
  unfold hold
  rw [Bool.eq_iff_iff, decide_eq_true_iff, List.contains_iff_mem, supF_mem]
end Lw.T

end
section
set_option Elab.async false
set_option linter.all false
set_option maxRecDepth 100000
set_option maxHeartbeats 4000000
namespace Lw.T
open PySem PySem.Spec L2 Lw Dg
theorem sup_le {p n : Nat} {l : Option Nat} (hp : FitP p) {x : Int} (hx : x ∈ sup p l n) : x ≤ n := by
  rw [mem_sup] at hx
  obtain ⟨q, b, e1, e2, e3⟩ := parts_cut p l n
  unfold InS at hx
  rw [e2, e3] at hx
  have h1 := sg_bound _ _ hx
  have h2 := parts_sum (p := p) (n := n) (l := l) hp
  rw [e1, List.sum_append, List.sum_cons, List.sum_nil] at h2
  omega
theorem hold_le {p k r : Nat} {l : Option Nat} (hp : FitP p) (h : hold p l k r = true) : k ≤ r := by
  have := sup_le hp (of_decide_eq_true h)
  omega
theorem repr_bl (b : Bool) : ∃ t, cRepr [.bl b] = some t ∧ oNe t t = some (.bl false) := by
  cases b
  · refine ⟨.str "False", rfl, ?_⟩
    have e : (Dt.str "False").py = some (.str "False") := by rw [Dt.py]
    unfold oNe
    rw [e]
    have h : SeqAt.shaped (.str "False") = true := by decide +kernel
    simp only [h, Bool.and_self, if_true, PyData.eqv]
    simp
  · refine ⟨.str "True", rfl, ?_⟩
    have e : (Dt.str "True").py = some (.str "True") := by rw [Dt.py]
    unfold oNe
    rw [e]
    have h : SeqAt.shaped (.str "True") = true := by decide +kernel
    simp only [h, Bool.and_self, if_true, PyData.eqv]
    simp
theorem ne_oD (o : Option Nat) : oNe (oD o) (oD o) = some (.bl false) := by
  cases o with
  | none => exact ne_non
  | some t => unfold oD nD; rw [ne_int]; simp
theorem aGet_once {α β : Type} [DecidableEq α] : ∀ {A : List (α × β)} {q : α × β}, Once A → q ∈ A → aGet A q.1 = some q.2
  | p :: ps, q, ho, h => by
    unfold Once at ho
    rw [List.map_cons, List.nodup_cons] at ho
    rcases List.mem_cons.mp h with z | z
    · subst z
      show (if q.1 = q.1 then some q.2 else aGet ps q.1) = _
      rw [if_pos rfl]
    · have n : p.1 ≠ q.1 := fun e => ho.1 (e ▸ List.mem_map.mpr ⟨q, z, rfl⟩)
      show (if p.1 = q.1 then some p.2 else aGet ps q.1) = _
      rw [if_neg n]
      exact aGet_once (show Once ps from ho.2) z
theorem minL_nn : ∀ (xs : List Int) (m : Int), 0 ≤ m → (∀ x ∈ xs, 0 ≤ x) → 0 ≤ minL m xs
  | [], m, h, _ => h
  | x :: xs, m, h, hx => by
    unfold minL
    refine minL_nn xs _ ?_ fun y hy => hx y (by simp [hy])
    have := hx x (by simp)
    split <;> omega
theorem min_ints (x : Int) (xs : List Int) : cMin [.lst ((x :: xs).map Dt.int)] = some (.int (minL x xs)) := by
  have := intsOf_map (x :: xs)
  simp only [cMin, this]
theorem it_ad (A : List (Nat × Int)) : itD (adD A) = some (A.map fun q => nD q.1) := by
  show some ((eK nK A).map kD) = _
  unfold eK
  rw [List.map_map]; rfl
theorem it_dct (ks : List Key) (vs : List Dt) : itD (.dct ks vs) = some (ks.map kD) := (rfl)
end Lw.T

end
section
set_option Elab.async false
set_option linter.all false
set_option maxRecDepth 100000
set_option maxHeartbeats 4000000
namespace Lw.T
open PySem PySem.Spec L2 Lw Dg
@[simp] theorem tup_lst (ds : List Dt) : cTuple [.lst ds] = some (.tup ds) := (rfl)
section
variable {p n m N k j : Nat} {d : Dt} {l : Option Nat} {h : Nat → Nat → Bool}
theorem oGet_dct (ks : List Key) (vs : List Dt) (r : Nat) (x : Dt) : oGet (.dct ks vs) (nD r) x = some ((getK ks vs (nK r)).getD x) := (rfl)
theorem size_run (H : HoldIs p l N h) (hN : n ≤ N) (hp : FitP p) (hl : FitL l) (hd : ∀ w, m_length [nD p, d] w = some (lD l, w)) (hn : n < 18000) (hm : Halfs n m) (r : Nat) (w : Wd) :
    m_size [nD p, d, nD n, nD r] w = some ((getK ((List.range m).map (kN n)) ((List.range m).map (zI h n)) (nK r)).getD (.int 0), w) := by
  have ha := all_sizes_ok (d := d) H hN hp hl hd hn hm w
  have hg := oGet_dct ((List.range m).map (kN n)) ((List.range m).map (zI h n)) r (.int 0)
  unfold m_size
  rw [u_run]
  simp [F_size, env0, q_bind, ha, hg]
theorem size_at (H : HoldIs p l N h) (hN : n ≤ N) (hp : FitP p) (hl : FitL l) (hd : ∀ w, m_length [nD p, d] w = some (lD l, w)) (hn : n < 18000) (hm : Halfs n m) (hj : j < m) (w : Wd) :
    m_size [nD p, d, nD n, nD (n - 2 * j)] w = some (zI h n j, w) := by
  rw [size_run H hN hp hl hd hn hm]
  have e : nK (n - 2 * j) = kN n j := rfl
  rw [e, getN (zI h n) hj (by unfold Halfs at hm; omega)]
  rfl
theorem size_not (H : HoldIs p l N h) (hN : n ≤ N) (hp : FitP p) (hl : FitL l) (hd : ∀ w, m_length [nD p, d] w = some (lD l, w)) (hn : n < 18000) (hm : Halfs n m) {r : Nat} (hr : ∀ j, j < m → r ≠ n - 2 * j) (w : Wd) :
    m_size [nD p, d, nD n, nD r] w = some (.int 0, w) := by
  rw [size_run H hN hp hl hd hn hm, getK_not _ _ fun z => by
    obtain ⟨t, ht, e⟩ := List.mem_map.mp z
    exact hr t (List.mem_range.mp ht) (nK_inj _ _ e.symm)]
  rfl
/-- nothing beyond k that the room holds is among n -/
def kpR (h : Nat → Nat → Bool) (n k : Nat) : Bool := (List.range (n + 1)).all fun r => decide (r ≤ k) || !h k r
/-- next_over tells the least one -/
theorem near_full {p k : Nat} {l : Option Nat} (hp : FitP p) (hl : FitL l) (hk : k + 1 < 2 ^ 140) : ∃ o : Option Nat, (∀ w, m_next_over [nD p, lD l, nD k] w = some (oD o, w)) ∧ (∀ R, k + 1 < R → ((k + 1 : Nat) : Int) ∈ sup p l R → ∃ r, o = some r ∧ r + 1 ≤ R) ∧ ∀ r, o = some r → k < r ∧ ((k + 1 : Nat) : Int) ∈ sup p l (r + 1) := by
  cases l with
  | none => exact ⟨none, next_none, (fun R h1 h2 => (by have := none_least h2; omega)), fun r h => (by cases h)⟩
  | some l =>
    obtain ⟨h2, h200⟩ := hl
    rcases hp with rfl | ⟨hp2, hp13⟩
    · by_cases hm : (k + 1) % l = 0
      · refine ⟨none, fun w => ?_, fun R h1 h3 => absurd hm (zero_least h2 h1 h3).1, fun r h => (by cases h)⟩
        have := next_zero (k := k) h2 h200 hk w
        rwa [if_pos hm] at this
      · have hg := late_gt (N := k + 1) (P := l) (by omega)
        refine ⟨some (late (k + 1) l - 1), fun w => ?_, fun R h1 h3 => ⟨_, rfl, by rw [(zero_least h2 h1 h3).2]; omega⟩, fun r h => ?_⟩
        · have := next_zero (k := k) h2 h200 hk w
          rwa [if_neg hm] at this
        · cases h
          refine ⟨by omega, ?_⟩
          rw [show late (k + 1) l - 1 + 1 = late (k + 1) l by omega]
          exact zero_late h2 hm
    · obtain ⟨i, hf⟩ := first_is hp2 h2 (show 0 < k + 1 by omega)
      have hg := late_gt (N := k + 1) (P := l * p ^ i) (Nat.mul_pos (by omega) (Nat.pow_pos (by omega)))
      refine ⟨some (late (k + 1) (l * p ^ i) - 1), next_first hp2 hp13 h2 h200 hk hf, fun R h1 h3 => ⟨_, rfl, by have := sup_least hp2 h2 hf h1 h3; omega⟩, fun r h => ?_⟩
      cases h
      refine ⟨by omega, ?_⟩
      rw [show late (k + 1) (l * p ^ i) - 1 + 1 = late (k + 1) (l * p ^ i) by omega]
      exact sup_late hp2 h2 hf
theorem keeps_all_ok (H : HoldIs p l N h) (hN : n ≤ N) (hkN : k ≤ N) (hN2 : N < 18000) (hp : FitP p) (hl : FitL l) (hd : ∀ w, m_length [nD p, d] w = some (lD l, w)) (w : Wd) : m_keeps_all [nD p, d, nD n, nD k] w = some (.bl (kpR h n k), w) := by
  obtain ⟨o, h1, h2, h3⟩ := near_full (p := p) (k := k) hp hl (by have : 20000 < 2 ^ 140 := by decide
                                                                  omega)
  have up : ∀ r, r ≤ n → k < r → h k r = true → ∃ s, o = some s ∧ s ≤ r := fun r hr hk hh => by
    have h4 : ((k + 1 : Nat) : Int) ∈ sup p l (r + 1) := by
      have := (H k r hkN (by omega)).trans hh
      exact of_decide_eq_true this
    obtain ⟨s, e1, e2⟩ := h2 (r + 1) (by omega) h4
    exact ⟨s, e1, by omega⟩
  have hF : ∀ t, (match o with | none => true | some r => decide (n < r)) = t → kpR h n k = t := fun t ht => by
    subst ht
    cases o with
    | none =>
      unfold kpR
      rw [List.all_eq_true]
      intro r hr
      have hr' := List.mem_range.mp hr
      by_cases c : r ≤ k
      · simp [c]
      · cases hh : h k r with
        | false => simp
        | true =>
          obtain ⟨s, e1, _⟩ := up r (by omega) (by omega) hh
          cases e1
    | some s =>
      obtain ⟨g1, g2⟩ := h3 s rfl
      by_cases c : n < s
      · show kpR h n k = decide (n < s)
        rw [decide_eq_true c]
        unfold kpR
        rw [List.all_eq_true]
        intro r hr
        have hr' := List.mem_range.mp hr
        by_cases c2 : r ≤ k
        · simp [c2]
        · cases hh : h k r with
          | false => simp
          | true =>
            obtain ⟨s', e1, e2⟩ := up r (by omega) (by omega) hh
            cases e1
            omega
      · show kpR h n k = decide (n < s)
        rw [decide_eq_false c]
        unfold kpR
        rw [List.all_eq_false]
        refine ⟨s, List.mem_range.mpr (by omega), ?_⟩
        have hh : h k s = true := by
          rw [← H k s hkN (by omega)]
          exact decide_eq_true g2
        simp [hh]; omega
  have h1w := h1 w
  have nn : oIs .non .non = some (.bl true) := rfl
  cases o with
  | none =>
    rw [hF true rfl]
    unfold m_keeps_all
    rw [u_run]
    have e : oD none = .non := rfl
    rw [e] at h1w
    simp [F_keeps_all, env0, q_bind, hd, h1w, nn]
  | some s =>
    rw [hF (decide (n < s)) rfl]
    unfold m_keeps_all
    rw [u_run]
    have e : oD (some s) = nD s := rfl
    rw [e] at h1w
    have e2 : oIs (nD s) .non = some (.bl false) := rfl
    simp [F_keeps_all, env0, q_bind, hd, h1w, e2, nd_gt']
def losR (h : Nat → Nat → Bool) (n : Nat) : List Nat := (upL (n % 2) (n + 1)).filter fun k => !kpR h n k
theorem upL_len (k n : Nat) : (upL k n).length ≤ n + 1 := by unfold upL; rw [List.length_map, List.length_range]; omega
theorem lost_ok (H : HoldIs p l N h) (hN : n ≤ N) (hN2 : N < 18000) (hp : FitP p) (hl : FitL l) (hd : ∀ w, m_length [nD p, d] w = some (lD l, w)) (w : Wd) : m_lost [nD p, d, nD n] w = some (.tup (toD (losR h n)), w) := by
  have hr := rg_upL (k := n % 2) (n := n + 1) (by omega) (by omega)
  have c := nLc_on (ft := ftN 3) (fi := iRg rg3 (aCons (rVal (fOp2 oMod (rVar 2) (rVal (fLit (.int 2))))) (aCons (rVal (fOp2 oAdd (rVar 2) (rVal (fLit (.int 1))))) (aCons (rVal (fLit (.int 2))) aNil)))) (fc := cNot (cB (fCall m_keeps_all (aCons (fVar 0) (aCons (fVar 1) (aCons (fVar 2) (aCons (fVar 3) aNil))))))) (fe := fVar 3) (vs := [3])
    (ρ := [some (.fr (nD p)), some (.fr d), some (.fr (nD n)), none]) (ρ1 := [some (.fr (nD p)), some (.fr d), some (.fr (nD n)), none]) (ρ0 := [some (.fr (nD p)), some (.fr d), some (.fr (nD n)), none]) (w := w) (w1 := w) (upL (n % 2) (n + 1)) nD (fun k => !kpR h n k) nD
    (by simp [q_bind, nd_mod2, nd_add1, hr]) rfl (fun k hk => by
      have hk' := mem_upL hk
      have ho := keeps_all_ok (d := d) (n := n) (k := k) H hN (by omega) hN2 hp hl hd w
      refine ⟨[some (.fr (nD p)), some (.fr d), some (.fr (nD n)), some (.fr (nD k))], rfl, ?_, fun _ => ?_, rfl⟩
      · simp [q_bind, ho]
      · simp [q_bind]) (by have := upL_len (n % 2) (n + 1); omega)
  unfold m_lost
  rw [u_run]
  simp [F_lost, env0, q_bind, -u_lc, c]
  rfl
theorem all_kept_ok (H : HoldIs p l N h) (hN : n ≤ N) (hN2 : N < 18000) (hp : FitP p) (hl : FitL l) (hd : ∀ w, m_length [nD p, d] w = some (lD l, w)) (w : Wd) : m_all_kept [nD p, d, nD n] w = some (.bl (decide (losR h n = [])), w) := by
  have ho := lost_ok (d := d) H hN hN2 hp hl hd w
  have he : oEq (.tup (toD (losR h n))) (.tup []) = some (.bl (decide (losR h n = []))) := by
    have := eq_tup (zN (losR h n)) []
    rw [toD_iD]
    rw [show (Dt.tup []) = .tup (iD []) from rfl, this]
    congr 2
    rw [Bool.eq_iff_iff, decide_eq_true_iff, decide_eq_true_iff]
    unfold zN
    rw [List.map_eq_nil_iff]
  unfold m_all_kept
  rw [u_run]
  simp [F_all_kept, env0, q_bind, ho, inLine_ok, he]
/-- the rooms that have the piece k -/
def shR (h : Nat → Nat → Bool) (n k : Nat) : List Nat := (upL (n % 2) (n + 1)).filter fun j => h j k
theorem shares_of_run (H : HoldIs p l N h) (hN : n ≤ N) (hN2 : N < 18000) (hp : FitP p) (hl : FitL l) (hd : ∀ w, m_length [nD p, d] w = some (lD l, w)) {r : Nat} (hr : r ≤ N) {v : Int} (hs : ∀ w, m_size [nD p, d, nD n, nD r] w = some (.int v, w)) (w : Wd) :
    m_shares_of [nD p, d, nD n, nD r] w = some (.tup (toD (if v = 0 then [] else shR h n r)), w) := by
  have hs' := hs w
  have he : oEq (.int v) (.int 0) = some (.bl (decide (v = 0))) := eq_int v 0
  unfold m_shares_of
  rw [u_run]
  by_cases hv : v = 0
  · rw [if_pos hv]
    rw [decide_eq_true hv] at he
    simp [F_shares_of, env0, q_bind, hs', -eq_int, he, inLine_ok]
    rfl
  · rw [if_neg hv]
    rw [decide_eq_false hv] at he
    have hr' := rg_upL (k := n % 2) (n := n + 1) (by omega) (by omega)
    have c := nLc_on (ft := ftN 5) (fi := iRg rg3 (aCons (rVal (fOp2 oMod (rVar 2) (rVal (fLit (.int 2))))) (aCons (rVal (fOp2 oAdd (rVar 2) (rVal (fLit (.int 1))))) (aCons (rVal (fLit (.int 2))) aNil)))) (fc := cB (fCall m_holds (aCons (fVar 0) (aCons (fVar 4) (aCons (fVar 5) (aCons (fVar 3) aNil)))))) (fe := fVar 5) (vs := [5])
      (ρ := [some (.fr (nD p)), some (.fr d), some (.fr (nD n)), some (.fr (nD r)), some (.fr (lD l)), none]) (ρ1 := [some (.fr (nD p)), some (.fr d), some (.fr (nD n)), some (.fr (nD r)), some (.fr (lD l)), none]) (ρ0 := [some (.fr (nD p)), some (.fr d), some (.fr (nD n)), some (.fr (nD r)), some (.fr (lD l)), none]) (w := w) (w1 := w) (upL (n % 2) (n + 1)) nD (fun j => h j r) nD
      (by simp [q_bind, nd_mod2, nd_add1, hr']) rfl (fun k hk => by
        have hk' := mem_upL hk
        have hh := holds_ok (p := p) (r := r) (k := (k : Int)) hp hl (small_pow (by omega)) w
        have hh' : m_holds [nD p, lD l, nD k, nD r] w = some (.bl (h k r), w) := by rw [← H _ _ (by omega) hr]; exact hh
        refine ⟨[some (.fr (nD p)), some (.fr d), some (.fr (nD n)), some (.fr (nD r)), some (.fr (lD l)), some (.fr (nD k))], rfl, ?_, fun _ => ?_, rfl⟩
        · simp [q_bind, hh']
        · simp [q_bind]) (by have := upL_len (n % 2) (n + 1); omega)
    simp [F_shares_of, env0, q_bind, hs', -eq_int, he, hd, -u_lc, c]
    rfl
end
end Lw.T

end
section
set_option Elab.async false
set_option linter.all false
set_option maxRecDepth 100000
set_option maxHeartbeats 4000000
namespace Lw.T
open PySem PySem.Spec L2 Lw Dg
abbrev Ly1 : M Fl := fSetLc 8 (nLc (ftN 5) (iRg rg3 (aCons (rVar 7) (aCons (rVal (fOp2 oAdd (rVar 2) (rVal (fLit (.int 1))))) (aCons (rVal (fLit (.int 2))) aNil)))) (cAnd (cB (fOp2 oNe (rVal (fOp2 oIx (rVar 4) (rVar 5))) (rVal (fLit (.int 0))))) (cB (fOp2 oIn (rVal (fOp2 oAdd (rVar 7) (rVal (fLit (.int 1))))) (rVal (fCall m_l_support (aCons (fVar 0) (aCons (fVar 3) (aCons (fOp2 oAdd (rVar 5) (rVal (fLit (.int 1)))) aNil)))))))) (fVar 5) [5])
abbrev Ly2 : M Fl := fIfS (cOr (cB (fOp2 oNe (rVal (fCall m_pieces_of (aCons (fVar 0) (aCons (fVar 1) (aCons (fVar 2) (aCons (fVar 7) aNil)))))) (rVal (fCallB cTuple (aCons (rVar 8) aNil))))) (cB (fOp2 oNe (rVal (fCallB cSum (aCons (rVal (mBind (nLc (ftN 5) (iAny (fVar 8)) (mRet true) (fOp2 oIx (rVar 4) (rVar 5)) [5]) fun ds => mRet (.lst ds))) aNil))) (rVal (fCall m_l_count_v2 (aCons (fVar 2) (aCons (fVar 7) aNil))))))) (fRet (fLit (.bl false))) fNx
abbrev Ly3 : M Fl := fIfS (cOr (cB (fOp2 oNe (rVal (fCall m_size (aCons (fVar 0) (aCons (fVar 1) (aCons (fVar 2) (aCons (fVar 7) aNil)))))) (rVal (fOp2 oIx (rVar 4) (rVar 7))))) (cOr (cB (fOp2 oLt (rVal (fOp2 oIx (rVar 4) (rVar 7))) (rVal (fLit (.int 0))))) (cB (fOp2 oNe (rVal (fCall m_size (aCons (fVar 0) (aCons (fVar 1) (aCons (fVar 2) (aCons (fOp2 oAdd (rVar 7) (rVal (fLit (.int 1)))) aNil)))))) (rVal (fLit (.int 0))))))) (fRet (fLit (.bl false))) fNx
abbrev Ly4 : M Fl := fSet 9 (fOp2 oEq (rVal (fOp2 oIx (rVar 4) (rVar 7))) (rVal (fCall m_l_count_v2 (aCons (fVar 2) (aCons (fVar 7) aNil)))))
abbrev Ly5 : M Fl := fIfS (cB (fOp2 oNe (rVal (fCallB cRepr (aCons (rVal (fCall m_keeps_all (aCons (fVar 0) (aCons (fVar 1) (aCons (fVar 2) (aCons (fVar 7) aNil)))))) aNil))) (rVal (fCallB cRepr (aCons (rVar 9) aNil))))) (fRet (fLit (.bl false))) fNx
abbrev Ly6 : M Fl := fSet 6 (fOp2 oAdd (rVar 6) (rIf (cB (fVar 9)) (rVal (fLst aNil)) (rVal (fLst (aCons (fVar 7) aNil)))))
abbrev Ly7 : M Fl := fSet 10 (fIf (cB (fOp2 oNe (rVal (fOp2 oIx (rVar 4) (rVar 7))) (rVal (fLit (.int 0))))) (mBind (nLc (ftN 11) (iRg rg3 (aCons (rVal (fOp2 oMod (rVar 2) (rVal (fLit (.int 2))))) (aCons (rVal (fOp2 oAdd (rVar 7) (rVal (fLit (.int 1))))) (aCons (rVal (fLit (.int 2))) aNil)))) (cB (fOp2 oIn (rVal (fOp2 oAdd (rVar 11) (rVal (fLit (.int 1))))) (rVal (fCall m_l_support (aCons (fVar 0) (aCons (fVar 3) (aCons (fOp2 oAdd (rVar 7) (rVal (fLit (.int 1)))) aNil))))))) (fVar 11) [11]) fun ds => mRet (.lst ds)) (fLst aNil))
abbrev Ly8 : M Fl := fIfS (cOr (cB (fOp2 oNe (rVal (fCall m_shares_of (aCons (fVar 0) (aCons (fVar 1) (aCons (fVar 2) (aCons (fVar 7) aNil)))))) (rVal (fCallB cTuple (aCons (rVar 10) aNil))))) (cB (fOp2 oNe (rVal (fCall m_shares_of (aCons (fVar 0) (aCons (fVar 1) (aCons (fVar 2) (aCons (fOp2 oAdd (rVar 7) (rVal (fLit (.int 1)))) aNil)))))) (rVal (fTup aNil))))) (fRet (fLit (.bl false))) fNx
abbrev LyB : M Fl := fSeq Ly1 (fSeq Ly2 (fSeq Ly3 (fSeq Ly4 (fSeq Ly5 (fSeq Ly6 (fSeq Ly7 Ly8))))))
theorem Ly_is : F_l_sizes_right = (fSeq (fParS [3, 4] (amF (fCall m_l_length (aCons (fVar 0) (aCons (fVar 1) aNil))) (amF (fCall m_l_sizes_v2 (aCons (fVar 0) (aCons (fVar 1) (aCons (fVar 2) aNil)))) (mRet []))))
  (fSeq (fIfS (cB (fOp2 oNe (rVal (fCall m_sizes (aCons (fVar 0) (aCons (fVar 1) (aCons (fVar 2) aNil))))) (rVal (mBind (nLc (ftN 5) (iRg rg3 (aCons (rVar 2) (aCons (rVal (fOp2 oSub (rVal (fLit (.int 0))) (rVal (fLit (.int 1))))) (aCons (rVal (fOp2 oSub (rVal (fLit (.int 0))) (rVal (fLit (.int 2))))) aNil)))) (cB (fOp2 oNe (rVal (fOp2 oIx (rVar 4) (rVar 5))) (rVal (fLit (.int 0))))) (fTup (aCons (fVar 5) (aCons (fOp2 oIx (rVar 4) (rVar 5)) aNil))) [5]) fun ds => mRet (.lst ds))))) (fRet (fLit (.bl false))) fNx)
  (fSeq (fSet 6 (fLst aNil))
  (fSeq (fFor (ftN 7) (iRg rg3 (aCons (rVal (fOp2 oMod (rVar 2) (rVal (fLit (.int 2))))) (aCons (rVal (fOp2 oAdd (rVar 2) (rVal (fLit (.int 1))))) (aCons (rVal (fLit (.int 2))) aNil)))) LyB)
  (fRet (fAndV (fOp2 oEq (rVal (fCall m_lost (aCons (fVar 0) (aCons (fVar 1) (aCons (fVar 2) aNil))))) (rVal (fCallB cTuple (aCons (rVar 6) aNil)))) (fOp2 oEq (rVal (fCallB cRepr (aCons (rVal (fCall m_all_kept (aCons (fVar 0) (aCons (fVar 1) (aCons (fVar 2) aNil))))) aNil))) (rVal (fCallB cRepr (aCons (rVal (fOp2 oEq (rVar 6) (rVal (fLst aNil)))) aNil)))))))))) := rfl


def ownR (h : Nat → Nat → Bool) (n k : Nat) : List Nat := (upL k (n + 1)).filter fun r => !decide (sz h n ((n - r) / 2) = 0) && h k r
def shL (h : Nat → Nat → Bool) (n k : Nat) : List Nat := (upL (n % 2) (k + 1)).filter fun j => h j k
/-- what stands fixed, and what was reckoned -/
structure Fy (p n m N : Nat) (l : Option Nat) (d : Dt) (h : Nat → Nat → Bool) : Prop where
  hp : FitP p
  hl : FitL l
  H : HoldIs p l N h
  nN : n < N
  N2 : N < 100
  hm : Halfs n m
  hd1 : ∀ w, m_length [nD p, d] w = some (lD l, w)
  hd2 : ∀ w, m_l_length [nD p, d] w = some (lD l, w)
  c1 : ∀ j, j < m → srtI (zN (pcs h n m (n - 2 * j))) = zN (ownR h n (n - 2 * j))
  c2 : ∀ j, j < m → ((ownR h n (n - 2 * j)).map fun r => sz h n ((n - r) / 2)).sum = (cnt n (n - 2 * j) : Int)
  c3 : ∀ j, j < m → 0 ≤ sz h n j
  c4 : ∀ j, j < m → kpR h n (n - 2 * j) = decide (sz h n j = (cnt n (n - 2 * j) : Int))
  c5 : ∀ j, j < m → sz h n j ≠ 0 → shR h n (n - 2 * j) = shL h n (n - 2 * j)
abbrev V' (d : Dt) : Option Sl := some (.fr d)
abbrev dcM (h : Nat → Nat → Bool) (n m : Nat) : Dt := .dct ((List.range m).map (kN n)) ((List.range m).map (zI h n))
abbrev ES (p n m : Nat) (d : Dt) (l : Option Nat) (h : Nat → Nat → Bool) (o5 o6 o7 o8 o9 o10 o11 : Option Sl) : En := [V' (nD p), V' d, V' (nD n), V' (lD l), V' (dcM h n m), o5, o6, o7, o8, o9, o10, o11]
section
variable {p n m N j : Nat} {l : Option Nat} {d : Dt} {h : Nat → Nat → Bool}
theorem fy_j (X : Fy p n m N l d h) (hj : j < m) : 2 * j ≤ n := by have := X.hm; unfold Halfs at this; omega
theorem fy_n (X : Fy p n m N l d h) : n < 100 := by have := X.nN; have := X.N2; omega
theorem fy_ix (X : Fy p n m N l d h) (hj : j < m) : oIx (dcM h n m) (nD (n - 2 * j)) = some (zI h n j) := getN (zI h n) hj (by have := X.hm; unfold Halfs at this; omega)
theorem fy_up (X : Fy p n m N l d h) (hj : j < m) {r : Nat} (hr : r ∈ upL (n - 2 * j) (n + 1)) : r ≤ n ∧ (n - r) / 2 < m ∧ r = n - 2 * ((n - r) / 2) := by
  have h1 := mem_upL hr
  have h2 := fy_j X hj
  have := X.hm
  unfold Halfs at this
  omega
theorem fy_ixr (X : Fy p n m N l d h) (hj : j < m) {r : Nat} (hr : r ∈ upL (n - 2 * j) (n + 1)) : oIx (dcM h n m) (nD r) = some (.int (sz h n ((n - r) / 2))) := by
  obtain ⟨h1, h2, h3⟩ := fy_up X hj hr
  have := fy_ix X h2
  rw [← h3] at this
  exact this
theorem ne0 (v : Int) : oNe (.int v) (.int 0) = some (.bl (!decide (v = 0))) := ne_int v 0
theorem ne_toD (a b : List Nat) (h : a = b) : oNe (.tup (toD a)) (.tup (toD b)) = some (.bl false) := by
  subst h
  rw [toD_iD, ne_tup]; simp
theorem y1 (X : Fy p n m N l d h) (hj : j < m) (o5 o6 o8 o9 o10 o11 : Option Sl) (w : Wd) : Ly1 (ES p n m d l h o5 o6 (V' (nD (n - 2 * j))) o8 o9 o10 o11) w = some (.nx, ES p n m d l h none o6 (V' (nD (n - 2 * j))) (V' (.lst (toD (ownR h n (n - 2 * j))))) o9 o10 o11, w) := by
  have hn := fy_n X
  have hjn := fy_j X hj
  have hr := rg_upL (k := n - 2 * j) (n := n + 1) (by omega) (by omega)
  have c := nLc_on (ft := ftN 5) (fi := iRg rg3 (aCons (rVar 7) (aCons (rVal (fOp2 oAdd (rVar 2) (rVal (fLit (.int 1))))) (aCons (rVal (fLit (.int 2))) aNil)))) (fc := cAnd (cB (fOp2 oNe (rVal (fOp2 oIx (rVar 4) (rVar 5))) (rVal (fLit (.int 0))))) (cB (fOp2 oIn (rVal (fOp2 oAdd (rVar 7) (rVal (fLit (.int 1))))) (rVal (fCall m_l_support (aCons (fVar 0) (aCons (fVar 3) (aCons (fOp2 oAdd (rVar 5) (rVal (fLit (.int 1)))) aNil)))))))) (fe := fVar 5) (vs := [5])
    (ρ := ES p n m d l h o5 o6 (V' (nD (n - 2 * j))) o8 o9 o10 o11) (ρ1 := ES p n m d l h o5 o6 (V' (nD (n - 2 * j))) o8 o9 o10 o11) (ρ0 := ES p n m d l h none o6 (V' (nD (n - 2 * j))) o8 o9 o10 o11) (w := w) (w1 := w) (upL (n - 2 * j) (n + 1)) nD (fun r => !decide (sz h n ((n - r) / 2) = 0) && h (n - 2 * j) r) nD
    (by simp [q_bind, nd_add1, hr]) rfl (fun r hr => by
      obtain ⟨z1, z2, z3⟩ := fy_up X hj hr
      have hx := fy_ixr X hj hr
      have h1 := l_sup_small (p := p) (l := l) (s := r) X.hp X.hl (by omega) w
      have h2 : oIn (nD (n - 2 * j + 1)) (.lst (iD (sup p l (r + 1)))) = some (.bl (h (n - 2 * j) r)) := by rw [← X.H _ _ (by have := X.nN; omega) (by have := X.nN; omega)]; exact in_sup _ _ _ _
      have h3 := ne0 (sz h n ((n - r) / 2))
      refine ⟨ES p n m d l h (V' (nD r)) o6 (V' (nD (n - 2 * j))) o8 o9 o10 o11, rfl, ?_, fun _ => ?_, rfl⟩
      · by_cases hz : sz h n ((n - r) / 2) = 0
        · rw [decide_eq_true hz] at h3 ⊢
          simp [q_bind, hx, -ne_int, h3]
        · rw [decide_eq_false hz] at h3 ⊢
          simp [q_bind, hx, -ne_int, h3, nd_add1, h1, h2]
      · simp [q_bind]) (by have := upL_len (n - 2 * j) (n + 1); omega)
  rw [Ly1, u_setLc, q_bind, c]
  rfl
theorem y2 (X : Fy p n m N l d h) (hj : j < m) (o5 o6 o9 o10 o11 : Option Sl) (w : Wd) : Ly2 (ES p n m d l h o5 o6 (V' (nD (n - 2 * j))) (V' (.lst (toD (ownR h n (n - 2 * j))))) o9 o10 o11) w = some (.nx, ES p n m d l h none o6 (V' (nD (n - 2 * j))) (V' (.lst (toD (ownR h n (n - 2 * j))))) o9 o10 o11, w) := by
  have hn := fy_n X
  have hjn := fy_j X hj
  have h1 := pieces_of_ok (d := d) (k := n - 2 * j) X.H (by have := X.nN; omega) (by have := X.nN; omega) X.hp X.hl X.hd1 (by omega) X.hm w
  rw [X.c1 j hj, ← toD_iD] at h1
  have h2 := ne_toD (ownR h n (n - 2 * j)) _ rfl
  have c := nLc_all (ft := ftN 5) (fi := iAny (fVar 8)) (fe := fOp2 oIx (rVar 4) (rVar 5)) (vs := [5])
    (ρ := ES p n m d l h o5 o6 (V' (nD (n - 2 * j))) (V' (.lst (toD (ownR h n (n - 2 * j))))) o9 o10 o11) (ρ1 := ES p n m d l h o5 o6 (V' (nD (n - 2 * j))) (V' (.lst (toD (ownR h n (n - 2 * j))))) o9 o10 o11) (ρ0 := ES p n m d l h none o6 (V' (nD (n - 2 * j))) (V' (.lst (toD (ownR h n (n - 2 * j))))) o9 o10 o11) (w := w) (w1 := w) (ownR h n (n - 2 * j)) nD (fun r => .int (sz h n ((n - r) / 2)))
    (by simp [q_bind, toD]) rfl (fun r hr => by
      have hx := fy_ixr X hj (List.mem_filter.mp hr).1
      refine ⟨ES p n m d l h (V' (nD r)) o6 (V' (nD (n - 2 * j))) (V' (.lst (toD (ownR h n (n - 2 * j))))) o9 o10 o11, rfl, ?_, rfl⟩
      simp [q_bind, hx]) (by
        have := List.length_filter_le (fun r => !decide (sz h n ((n - r) / 2) = 0) && h (n - 2 * j) r) (upL (n - 2 * j) (n + 1))
        have := upL_len (n - 2 * j) (n + 1)
        unfold ownR; omega)
  have h3 : cSum [.lst ((ownR h n (n - 2 * j)).map fun r => Dt.int (sz h n ((n - r) / 2)))] = some (nD (cnt n (n - 2 * j))) := by
    have e : ((ownR h n (n - 2 * j)).map fun r => Dt.int (sz h n ((n - r) / 2))) = (((ownR h n (n - 2 * j)).map fun r => sz h n ((n - r) / 2)).map Dt.int) := by rw [List.map_map]; rfl
    rw [e, sum_ints, X.c2 j hj]; rfl
  have h4 := l_count_ok (n := n) (k := n - 2 * j) (by omega) w
  have h5 : oNe (nD (cnt n (n - 2 * j))) (nD (cnt n (n - 2 * j))) = some (.bl false) := by unfold nD; rw [ne_int]; simp
  have hv := l_count_v2_is
  rw [Ly2, hv]
  simp [q_bind, h1, h2, -u_lc, c, h3, h4, h5]
theorem y3 (X : Fy p n m N l d h) (hj : j < m) (o5 o6 o8 o9 o10 o11 : Option Sl) (w : Wd) : Ly3 (ES p n m d l h o5 o6 (V' (nD (n - 2 * j))) o8 o9 o10 o11) w = some (.nx, ES p n m d l h o5 o6 (V' (nD (n - 2 * j))) o8 o9 o10 o11, w) := by
  have hn := fy_n X
  have hjn := fy_j X hj
  have h1 := size_at (d := d) X.H (by have := X.nN; omega) X.hp X.hl X.hd1 (by omega) X.hm hj w
  have h2 := fy_ix X hj
  have h3 : oNe (zI h n j) (zI h n j) = some (.bl false) := by unfold zI; rw [ne_int]; simp
  have h4 : oLt (zI h n j) (.int 0) = some (.bl false) := by unfold zI; rw [int_lt, decide_eq_false (by have := X.c3 j hj; omega)]
  have h5 := size_not (d := d) (r := n - 2 * j + 1) X.H (by have := X.nN; omega) X.hp X.hl X.hd1 (by omega) X.hm (fun t ht e => by have := fy_j X ht; omega) w
  have h6 : oNe (.int 0) (.int 0) = some (.bl false) := by rw [ne_int]; simp
  simp [q_bind, h1, h2, h3, h4, nd_add1, h5, h6]
theorem y4 (X : Fy p n m N l d h) (hj : j < m) (o5 o6 o8 o9 o10 o11 : Option Sl) (w : Wd) : Ly4 (ES p n m d l h o5 o6 (V' (nD (n - 2 * j))) o8 o9 o10 o11) w = some (.nx, ES p n m d l h o5 o6 (V' (nD (n - 2 * j))) o8 (V' (.bl (kpR h n (n - 2 * j)))) o10 o11, w) := by
  have hn := fy_n X
  have h2 := fy_ix X hj
  have h4 := l_count_ok (n := n) (k := n - 2 * j) (by omega) w
  have h5 : oEq (zI h n j) (nD (cnt n (n - 2 * j))) = some (.bl (kpR h n (n - 2 * j))) := by rw [X.c4 j hj]; exact eq_int _ _
  rw [Ly4, l_count_v2_is]
  simp [q_bind, h2, h4, h5]
theorem y5 (X : Fy p n m N l d h) (hj : j < m) (o5 o6 o8 o10 o11 : Option Sl) (w : Wd) : Ly5 (ES p n m d l h o5 o6 (V' (nD (n - 2 * j))) o8 (V' (.bl (kpR h n (n - 2 * j)))) o10 o11) w = some (.nx, ES p n m d l h o5 o6 (V' (nD (n - 2 * j))) o8 (V' (.bl (kpR h n (n - 2 * j)))) o10 o11, w) := by
  have h1 := keeps_all_ok (d := d) (n := n) (k := n - 2 * j) X.H (by have := X.nN; omega) (by have := X.nN; omega) (by have := X.N2; omega) X.hp X.hl X.hd1 w
  obtain ⟨t, h2, h3⟩ := repr_bl (kpR h n (n - 2 * j))
  simp [q_bind, h1, h2, h3]
theorem y6 (done : List Nat) (hd : done.length < 1000) (k : Nat) (b : Bool) (o5 o8 o10 o11 : Option Sl) (w : Wd) : Ly6 (ES p n m d l h o5 (V' (.lst (toD done))) (V' (nD k)) o8 (V' (.bl b)) o10 o11) w = some (.nx, ES p n m d l h o5 (V' (.lst (toD (done ++ if b then [] else [k])))) (V' (nD k)) o8 (V' (.bl b)) o10 o11, w) := by
  have e : ∀ c : List Nat, c.length ≤ 1 → oAdd (.lst (toD done)) (.lst (toD c)) = some (.lst (toD (done ++ c))) := fun c hc => by
    rw [toD_iD, toD_iD, add_ints (by unfold zN; rw [List.length_map, List.length_map]; omega), toD_iD]
    unfold zN; rw [List.map_append]
  have e0 : oAdd (.lst (toD done)) (.lst []) = some (.lst (toD (done ++ []))) := e [] (by simp)
  have e1 : oAdd (.lst (toD done)) (.lst [nD k]) = some (.lst (toD (done ++ [k]))) := e [k] (by simp)
  cases b with
  | true =>
    rw [List.append_nil] at e0
    simp [q_bind, inLine_ok, e0]
  | false => simp [q_bind, inLine_ok, e1]
theorem y78 (X : Fy p n m N l d h) (hj : j < m) (o5 o6 o8 o9 o10 o11 : Option Sl) (w : Wd) : ∃ o10' o11', fSeq Ly7 Ly8 (ES p n m d l h o5 o6 (V' (nD (n - 2 * j))) o8 o9 o10 o11) w = some (.nx, ES p n m d l h o5 o6 (V' (nD (n - 2 * j))) o8 o9 o10' o11', w) := by
  have hn := fy_n X
  have hjn := fy_j X hj
  have hx := fy_ix X hj
  have h1 : ∀ w, m_size [nD p, d, nD n, nD (n - 2 * j)] w = some (.int (sz h n j), w) := fun w => size_at (d := d) X.H (by have := X.nN; omega) X.hp X.hl X.hd1 (by omega) X.hm hj w
  have h5 : ∀ w, m_size [nD p, d, nD n, nD (n - 2 * j + 1)] w = some (.int 0, w) := fun w => size_not (d := d) (r := n - 2 * j + 1) X.H (by have := X.nN; omega) X.hp X.hl X.hd1 (by omega) X.hm (fun t ht e => by have := fy_j X ht; omega) w
  have s1 := shares_of_run (d := d) (r := n - 2 * j) X.H (by have := X.nN; omega) (by have := X.N2; omega) X.hp X.hl X.hd1 (by have := X.nN; omega) h1 w
  have s2 := shares_of_run (d := d) (r := n - 2 * j + 1) X.H (by have := X.nN; omega) (by have := X.N2; omega) X.hp X.hl X.hd1 (by have := X.nN; omega) h5 w
  rw [if_pos rfl] at s2
  have s2 : m_shares_of [nD p, d, nD n, nD (n - 2 * j + 1)] w = some (.tup [], w) := s2
  have e0 : oNe (.tup []) (.tup []) = some (.bl false) := ne_toD [] [] rfl
  have hz := ne0 (sz h n j)
  by_cases hs : sz h n j = 0
  · rw [decide_eq_true hs] at hz
    rw [if_pos hs] at s1
    have s1 : m_shares_of [nD p, d, nD n, nD (n - 2 * j)] w = some (.tup [], w) := s1
    refine ⟨V' (.lst []), o11, ?_⟩
    have hz' : oNe (zI h n j) (.int 0) = some (.bl false) := hz
    rw [seq_nx (ρ1 := ES p n m d l h o5 o6 (V' (nD (n - 2 * j))) o8 o9 (V' (.lst [])) o11) (w1 := w) (by simp [q_bind, hx, hz', inLine_ok])]
    simp [q_bind, s1, e0, nd_add1, s2, inLine_ok]
  · rw [decide_eq_false hs] at hz
    rw [if_neg hs, X.c5 j hj hs] at s1
    have hr := rg_upL (k := n % 2) (n := n - 2 * j + 1) (by omega) (by omega)
    have c := nLc_on (ft := ftN 11) (fi := iRg rg3 (aCons (rVal (fOp2 oMod (rVar 2) (rVal (fLit (.int 2))))) (aCons (rVal (fOp2 oAdd (rVar 7) (rVal (fLit (.int 1))))) (aCons (rVal (fLit (.int 2))) aNil)))) (fc := cB (fOp2 oIn (rVal (fOp2 oAdd (rVar 11) (rVal (fLit (.int 1))))) (rVal (fCall m_l_support (aCons (fVar 0) (aCons (fVar 3) (aCons (fOp2 oAdd (rVar 7) (rVal (fLit (.int 1)))) aNil))))))) (fe := fVar 11) (vs := [11])
      (ρ := ES p n m d l h o5 o6 (V' (nD (n - 2 * j))) o8 o9 o10 o11) (ρ1 := ES p n m d l h o5 o6 (V' (nD (n - 2 * j))) o8 o9 o10 o11) (ρ0 := ES p n m d l h o5 o6 (V' (nD (n - 2 * j))) o8 o9 o10 none) (w := w) (w1 := w) (upL (n % 2) (n - 2 * j + 1)) nD (fun t => h t (n - 2 * j)) nD
      (by simp [q_bind, nd_mod2, nd_add1, hr]) rfl (fun t ht => by
        have ht' := mem_upL ht
        have q1 := l_sup_small (p := p) (l := l) (s := n - 2 * j) X.hp X.hl (by omega) w
        have q2 : oIn (nD (t + 1)) (.lst (iD (sup p l (n - 2 * j + 1)))) = some (.bl (h t (n - 2 * j))) := by rw [← X.H _ _ (by have := X.nN; omega) (by have := X.nN; omega)]; exact in_sup _ _ _ _
        refine ⟨ES p n m d l h o5 o6 (V' (nD (n - 2 * j))) o8 o9 o10 (V' (nD t)), rfl, ?_, fun _ => ?_, rfl⟩
        · simp [q_bind, nd_add1, q1, q2]
        · simp [q_bind]) (by have := upL_len (n % 2) (n - 2 * j + 1); omega)
    have c : _ = some (toD (shL h n (n - 2 * j)), _, w) := c
    have hz' : oNe (zI h n j) (.int 0) = some (.bl true) := hz
    have e1 := ne_toD (shL h n (n - 2 * j)) _ rfl
    refine ⟨V' (.lst (toD (shL h n (n - 2 * j)))), none, ?_⟩
    rw [seq_nx (ρ1 := ES p n m d l h o5 o6 (V' (nD (n - 2 * j))) o8 o9 (V' (.lst (toD (shL h n (n - 2 * j))))) none) (w1 := w) (by simp [q_bind, hx, hz', -u_lc, c])]
    simp [q_bind, s1, e1, nd_add1, s2, e0, inLine_ok]
end
end Lw.T

end
section
set_option Elab.async false
set_option linter.all false
set_option maxRecDepth 100000
set_option maxHeartbeats 4000000
namespace Lw.T
open PySem PySem.Spec L2 Lw Dg
theorem repr_bl' (b : Bool) : ∃ t, cRepr [.bl b] = some t ∧ oEq t t = some (.bl true) := by
  obtain ⟨t, h1, _⟩ := repr_bl b
  refine ⟨t, h1, ?_⟩
  cases b with
  | true => cases h1; exact eq_same (k := 0) (by decide) (by decide +kernel)
  | false => cases h1; exact eq_same (k := 0) (by decide) (by decide +kernel)
section
variable {p n m N j : Nat} {l : Option Nat} {d : Dt} {h : Nat → Nat → Bool}
theorem filt_snoc (f : Nat → Bool) (done : List Nat) (k : Nat) : (done ++ [k]).filter (fun x => !f x) = done.filter (fun x => !f x) ++ if f k then [] else [k] := by
  rw [List.filter_append]
  cases hk : f k <;> simp [hk]
theorem y_lap (X : Fy p n m N l d h) {k : Nat} (hk : k ∈ upL (n % 2) (n + 1)) (done : List Nat) (hd : done.length < 1000) (o5 o7 o8 o9 o10 o11 : Option Sl) (w : Wd) : ∃ q5 q8 q9 q10 q11, LyB (ES p n m d l h o5 (V' (.lst (toD (done.filter fun x => !kpR h n x)))) (V' (nD k)) o8 o9 o10 o11) w = some (.nx, ES p n m d l h q5 (V' (.lst (toD ((done ++ [k]).filter fun x => !kpR h n x)))) (V' (nD k)) q8 q9 q10 q11, w) := by
  have hm := mem_upL hk
  have hH := X.hm
  unfold Halfs at hH
  have hj : (n - k) / 2 < m := by omega
  have ek : k = n - 2 * ((n - k) / 2) := by omega
  generalize (n - k) / 2 = j at *
  subst ek
  have e1 := y1 X hj o5 (V' (.lst (toD (done.filter fun x => !kpR h n x)))) o8 o9 o10 o11 w
  have e2 := y2 X hj none (V' (.lst (toD (done.filter fun x => !kpR h n x)))) o9 o10 o11 w
  have e3 := y3 X hj none (V' (.lst (toD (done.filter fun x => !kpR h n x)))) (V' (.lst (toD (ownR h n (n - 2 * j))))) o9 o10 o11 w
  have e4 := y4 X hj none (V' (.lst (toD (done.filter fun x => !kpR h n x)))) (V' (.lst (toD (ownR h n (n - 2 * j))))) o9 o10 o11 w
  have e5 := y5 X hj none (V' (.lst (toD (done.filter fun x => !kpR h n x)))) (V' (.lst (toD (ownR h n (n - 2 * j))))) o10 o11 w
  have hlen : (done.filter fun x => !kpR h n x).length < 1000 := Nat.lt_of_le_of_lt (List.length_filter_le _ _) hd
  have e6 := y6 (p := p) (n := n) (m := m) (l := l) (d := d) (h := h) (done.filter fun x => !kpR h n x) hlen (n - 2 * j) (kpR h n (n - 2 * j)) none (V' (.lst (toD (ownR h n (n - 2 * j))))) o10 o11 w
  rw [← filt_snoc] at e6
  obtain ⟨q10, q11, e7⟩ := y78 X hj none (V' (.lst (toD ((done ++ [n - 2 * j]).filter fun x => !kpR h n x)))) (V' (.lst (toD (ownR h n (n - 2 * j))))) (V' (.bl (kpR h n (n - 2 * j)))) o10 o11 w
  refine ⟨none, V' (.lst (toD (ownR h n (n - 2 * j)))), V' (.bl (kpR h n (n - 2 * j))), q10, q11, ?_⟩
  rw [LyB, seq_nx e1, seq_nx e2, seq_nx e3, seq_nx e4, seq_nx e5, seq_nx e6, e7]
theorem sizes_right_ok (X : Fy p n m N l d h) (w : Wd) : m_l_sizes_right [nD p, d, nD n] w = some (.bl true, w) := by
  have hn := fy_n X
  have hlen := upL_len (n % 2) (n + 1)
  have hs1 := l_sizes_ok (d := d) (m := m) X.H (by have := X.nN; omega) X.hp X.hl X.hd2 (by omega) X.hm w
  have hs2 := sizes_ok (d := d) (m := m) X.H (by have := X.nN; omega) X.hp X.hl X.hd1 (by omega) X.hm w
  have q1 : oSub (.int 0) (.int 1) = some (.int (-1)) := rfl
  have q2 : oSub (.int 0) (.int 2) = some (.int (-2)) := rfl
  have hr := rg_main (n := n) (m := m) (by omega) X.hm
  have c0 := nLc_on (ft := ftN 5) (fi := iRg rg3 (aCons (rVar 2) (aCons (rVal (fOp2 oSub (rVal (fLit (.int 0))) (rVal (fLit (.int 1))))) (aCons (rVal (fOp2 oSub (rVal (fLit (.int 0))) (rVal (fLit (.int 2))))) aNil)))) (fc := cB (fOp2 oNe (rVal (fOp2 oIx (rVar 4) (rVar 5))) (rVal (fLit (.int 0))))) (fe := fTup (aCons (fVar 5) (aCons (fOp2 oIx (rVar 4) (rVar 5)) aNil))) (vs := [5])
    (ρ := ES p n m d l h none none none none none none none) (ρ1 := ES p n m d l h none none none none none none none) (ρ0 := ES p n m d l h none none none none none none none) (w := w) (w1 := w) (List.range m) (fun j => nD (n - 2 * j)) (fun j => !decide (sz h n j = 0)) (szP h n)
    (by simp [q_bind, q1, q2, hr]) rfl (fun j hj => by
      have hx := fy_ix X (List.mem_range.mp hj)
      have hz : oNe (zI h n j) (.int 0) = some (.bl (!decide (sz h n j = 0))) := ne0 _
      refine ⟨ES p n m d l h (V' (nD (n - 2 * j))) none none none none none none, rfl, ?_, fun _ => ?_, rfl⟩
      · simp [q_bind, hx, hz]
      · simp [q_bind, hx, inLine_ok, szP]) (by rw [List.length_range]; have := X.hm; unfold Halfs at this; omega)
  have ef : (List.range m).filter (fun j => !decide (sz h n j = 0)) = (List.range m).filter (szB h n) := by
    refine List.filter_congr fun j hj => ?_
    have := X.c3 j (List.mem_range.mp hj)
    unfold szB
    rw [Bool.eq_iff_iff]
    simp
    omega
  rw [ef] at c0
  have hne : oNe (.lst (((List.range m).filter (szB h n)).map (szP h n))) (.lst (((List.range m).filter (szB h n)).map (szP h n))) = some (.bl false) := ne_same (k := 2) (by decide) (by
    rw [okD]
    exact okDL_map (fun x => by unfold szP zI nD; simp only [okD, okDL, Bool.and_self]) _)
  generalize hXX : (((List.range m).filter (szB h n)).map (szP h n)) = XX at *
  obtain ⟨ρ', el, _, _, q5, q7, q8, q9, q10, q11, hρ⟩ := loop_rel (ft := ftN 7) (fb := LyB) (w := w) nD (fun done rest ρ => (∀ k ∈ rest, k ∈ upL (n % 2) (n + 1)) ∧ done.length + rest.length < 1000 ∧ ∃ o5 o7 o8 o9 o10 o11, ρ = ES p n m d l h o5 (V' (.lst (toD (done.filter fun x => !kpR h n x)))) o7 o8 o9 o10 o11) (upL (n % 2) (n + 1)) [] (ES p n m d l h none (V' (.lst [])) none none none none none)
    ⟨fun _ hk => hk, by simp; omega, none, none, none, none, none, none, rfl⟩ (fun done k rest ρ ⟨hr, hl, o5, o7, o8, o9, o10, o11, hρ⟩ => by
      subst hρ
      rw [List.length_cons] at hl
      obtain ⟨q5, q8, q9, q10, q11, e⟩ := y_lap X (hr k (by simp)) done (by omega) o5 o7 o8 o9 o10 o11 w
      exact ⟨ES p n m d l h o5 (V' (.lst (toD (done.filter fun x => !kpR h n x)))) (V' (nD k)) o8 o9 o10 o11, _, rfl, .inl e, fun x hx => hr x (by simp [hx]), by rw [List.length_append, List.length_singleton]; omega, q5, V' (nD k), q8, q9, q10, q11, rfl⟩)
  subst hρ
  rw [List.nil_append] at el
  have el : loopD (ftN 7) LyB ((upL (n % 2) (n + 1)).map nD) (ES p n m d l h none (V' (.lst [])) none none none none none) w = some (.nx, ES p n m d l h q5 (V' (.lst (toD (losR h n)))) q7 q8 q9 q10 q11, w) := el
  have hr2 := rg_upL (k := n % 2) (n := n + 1) (by omega) (by omega)
  have h1 := lost_ok (d := d) (n := n) X.H (by have := X.nN; omega) (by have := X.N2; omega) X.hp X.hl X.hd1 w
  have h2 := all_kept_ok (d := d) (n := n) X.H (by have := X.nN; omega) (by have := X.N2; omega) X.hp X.hl X.hd1 w
  have h3 : oEq (.tup (toD (losR h n))) (.tup (toD (losR h n))) = some (.bl true) := by rw [toD_iD, eq_tup]; simp
  have h4 : oEq (.lst (toD (losR h n))) (.lst []) = some (.bl (decide (losR h n = []))) := by
    have := eq_lst (zN (losR h n)) []
    have e : decide (zN (losR h n) = []) = decide (losR h n = []) := by
      rw [Bool.eq_iff_iff, decide_eq_true_iff, decide_eq_true_iff]
      unfold zN
      rw [List.map_eq_nil_iff]
    rw [toD_iD, show (Dt.lst []) = .lst (iD []) from rfl, this, e]
  obtain ⟨t, h5, h6⟩ := repr_bl' (decide (losR h n = []))
  generalize hLL : toD (losR h n) = LL at *
  generalize decide (losR h n = []) = bb at *
  have hF := Ly_is
  unfold m_l_sizes_right
  rw [u_run, hF, l_sizes_v2_is]
  rw [seq_nx (ρ1 := ES p n m d l h none none none none none none none) (w1 := w) (by simp [env0, q_bind, X.hd2, hs1]),
    seq_nx (ρ1 := ES p n m d l h none none none none none none none) (w1 := w) (by simp [q_bind, hs2, -u_lc, c0, hne]),
    seq_nx (ρ1 := ES p n m d l h none (V' (.lst [])) none none none none none) (w1 := w) (by simp [q_bind, inLine_ok]),
    seq_nx (ρ1 := ES p n m d l h q5 (V' (.lst LL)) q7 q8 q9 q10 q11) (w1 := w) (by
      rw [← el, u_for, q_bind]
      simp [q_bind, -u_for, nd_mod2, nd_add1, hr2])]
  simp [q_bind, h1, h3, h2, h5, inLine_ok, h4, h6]
end
end Lw.T

end
section
set_option Elab.async false
set_option linter.all false
set_option maxRecDepth 100000
set_option maxHeartbeats 4000000
namespace Dg
def biE (n k : Nat) : Nat := fal n k / fac k
theorem biE_is (n k : Nat) : biE n k = bi n k := by
  unfold biE
  rw [fal_bi, Nat.mul_div_cancel _ (fac_pos k)]
def cntE (n k : Nat) : Nat := if n < k ∨ (n - k) % 2 = 1 then 0 else biE n ((n - k) / 2) - (if (n - k) / 2 = 0 then 0 else biE n ((n - k) / 2 - 1))
theorem cntE_is (n k : Nat) : cntE n k = cnt n k := by
  unfold cntE cnt
  rw [biE_is, biE_is]
/-- sizes told by a list that goes on as it should -/
theorem sz_of {h : Nat → Nat → Bool} {n m : Nat} {z : Nat → Int} (hz : ∀ j, j < m → z j = (cnt n (n - 2 * j) : Int) - (((List.range j).filter fun t => h (n - 2 * j) (n - 2 * t)).map z).sum) : ∀ j, j < m → sz h n j = z j := by
  intro j
  induction j using Nat.strongRecOn with
  | _ j ih =>
    intro hj
    rw [sz_eq, hz j hj]
    congr 2
    refine List.map_congr_left fun t ht => ?_
    have := List.mem_range.mp (List.mem_filter.mp ht).1
    exact ih t this (by omega)
end Dg

end
section
set_option Elab.async false
set_option linter.all false
set_option maxRecDepth 100000
set_option maxHeartbeats 4000000
namespace Lw.T
open PySem PySem.Spec L2 Lw Dg
def zL (L : List Int) (j : Nat) : Int := L.getD j 0
def pcsL (h : Nat → Nat → Bool) (L : List Int) (n m k : Nat) : List Nat := ((List.range m).filter fun j => decide (0 < zL L j) && h k (n - 2 * j)).map fun j => n - 2 * j
def ownL (h : Nat → Nat → Bool) (L : List Int) (n k : Nat) : List Nat := (upL k (n + 1)).filter fun r => !decide (zL L ((n - r) / 2) = 0) && h k r
def chkK (h : Nat → Nat → Bool) (L : List Int) (n m j : Nat) : Bool :=
  decide (zL L j = (cntE n (n - 2 * j) : Int) - (((List.range j).filter fun t => h (n - 2 * j) (n - 2 * t)).map (zL L)).sum) &&
  decide (srtI (zN (pcsL h L n m (n - 2 * j))) = zN (ownL h L n (n - 2 * j))) &&
  decide (((ownL h L n (n - 2 * j)).map fun r => zL L ((n - r) / 2)).sum = (cntE n (n - 2 * j) : Int)) &&
  decide (0 ≤ zL L j) && (kpR h n (n - 2 * j) == decide (zL L j = (cntE n (n - 2 * j) : Int))) &&
  (decide (zL L j = 0) || decide (shR h n (n - 2 * j) = shL h n (n - 2 * j)))
def chk10 (h : Nat → Nat → Bool) (L : List Int) (n : Nat) : Bool := (List.range (n / 2 + 1)).all fun j => chkK h L n (n / 2 + 1) j
def all10 (h : Nat → Nat → Bool) (BL : List (List Int)) : Bool := (List.range 27).all fun n => chk10 h (BL.getD n []) n
def tb_0_n : List Nat := [1, 2, 4, 8, 16, 32, 64, 128, 256, 512, 1024, 2048, 4096, 8192, 16384, 32768, 65536, 131072, 262144, 524288, 1048576, 2097152, 4194304, 8388608, 16777216, 33554432, 67108864, 134217728]
def bl_0_n : List (List Int) := [[1], [1], [1, 1], [1, 2], [1, 3, 2], [1, 4, 5], [1, 5, 9, 5], [1, 6, 14, 14], [1, 7, 20, 28, 14], [1, 8, 27, 48, 42], [1, 9, 35, 75, 90, 42], [1, 10, 44, 110, 165, 132], [1, 11, 54, 154, 275, 297, 132], [1, 12, 65, 208, 429, 572, 429], [1, 13, 77, 273, 637, 1001, 1001, 429], [1, 14, 90, 350, 910, 1638, 2002, 1430], [1, 15, 104, 440, 1260, 2548, 3640, 3432, 1430], [1, 16, 119, 544, 1700, 3808, 6188, 7072, 4862], [1, 17, 135, 663, 2244, 5508, 9996, 13260, 11934, 4862], [1, 18, 152, 798, 2907, 7752, 15504, 23256, 25194, 16796], [1, 19, 170, 950, 3705, 10659, 23256, 38760, 48450, 41990, 16796], [1, 20, 189, 1120, 4655, 14364, 33915, 62016, 87210, 90440, 58786], [1, 21, 209, 1309, 5775, 19019, 48279, 95931, 149226, 177650, 149226, 58786], [1, 22, 230, 1518, 7084, 24794, 67298, 144210, 245157, 326876, 326876, 208012], [1, 23, 252, 1748, 8602, 31878, 92092, 211508, 389367, 572033, 653752, 534888, 208012], [1, 24, 275, 2000, 10350, 40480, 123970, 303600, 600875, 961400, 1225785, 1188640, 742900], [1, 25, 299, 2275, 12350, 50830, 164450, 427570, 904475, 1562275, 2187185, 2414425, 1931540, 742900]]
theorem tk_0_n : tabOk 0 none 27 tb_0_n = true := by decide +kernel
theorem ck_0_n : all10 (tbl tb_0_n) bl_0_n = true := by decide +kernel
def tb_0_2 : List Nat := [1, 2, 5, 8, 20, 32, 80, 128, 320, 512, 1280, 2048, 5120, 8192, 20480, 32768, 81920, 131072, 327680, 524288, 1310720, 2097152, 5242880, 8388608, 20971520, 33554432, 83886080, 134217728]
def bl_0_2 : List (List Int) := [[1], [1], [1, 0], [1, 2], [1, 2, 0], [1, 4, 5], [1, 4, 5, 0], [1, 6, 14, 14], [1, 6, 14, 14, 0], [1, 8, 27, 48, 42], [1, 8, 27, 48, 42, 0], [1, 10, 44, 110, 165, 132], [1, 10, 44, 110, 165, 132, 0], [1, 12, 65, 208, 429, 572, 429], [1, 12, 65, 208, 429, 572, 429, 0], [1, 14, 90, 350, 910, 1638, 2002, 1430], [1, 14, 90, 350, 910, 1638, 2002, 1430, 0], [1, 16, 119, 544, 1700, 3808, 6188, 7072, 4862], [1, 16, 119, 544, 1700, 3808, 6188, 7072, 4862, 0], [1, 18, 152, 798, 2907, 7752, 15504, 23256, 25194, 16796], [1, 18, 152, 798, 2907, 7752, 15504, 23256, 25194, 16796, 0], [1, 20, 189, 1120, 4655, 14364, 33915, 62016, 87210, 90440, 58786], [1, 20, 189, 1120, 4655, 14364, 33915, 62016, 87210, 90440, 58786, 0], [1, 22, 230, 1518, 7084, 24794, 67298, 144210, 245157, 326876, 326876, 208012], [1, 22, 230, 1518, 7084, 24794, 67298, 144210, 245157, 326876, 326876, 208012, 0], [1, 24, 275, 2000, 10350, 40480, 123970, 303600, 600875, 961400, 1225785, 1188640, 742900], [1, 24, 275, 2000, 10350, 40480, 123970, 303600, 600875, 961400, 1225785, 1188640, 742900, 0]]
theorem tk_0_2 : tabOk 0 (some 2) 27 tb_0_2 = true := by decide +kernel
theorem ck_0_2 : all10 (tbl tb_0_2) bl_0_2 = true := by decide +kernel
def tb_0_3 : List Nat := [1, 2, 4, 10, 17, 32, 80, 136, 256, 640, 1088, 2048, 5120, 8704, 16384, 40960, 69632, 131072, 327680, 557056, 1048576, 2621440, 4456448, 8388608, 20971520, 35651584, 67108864, 167772160]
def bl_0_3 : List (List Int) := [[1], [1], [1, 1], [1, 1], [1, 3, 1], [1, 4, 1], [1, 4, 9, 1], [1, 6, 13, 1], [1, 7, 13, 28, 1], [1, 7, 27, 41, 1], [1, 9, 34, 41, 90, 1], [1, 10, 34, 110, 131, 1], [1, 10, 54, 144, 131, 297, 1], [1, 12, 64, 144, 429, 428, 1], [1, 13, 64, 273, 573, 428, 1001, 1], [1, 13, 90, 337, 573, 1638, 1429, 1], [1, 15, 103, 337, 1260, 2211, 1429, 3432, 1], [1, 16, 103, 544, 1597, 2211, 6188, 4861, 1], [1, 16, 135, 647, 1597, 5508, 8399, 4861, 11934, 1], [1, 18, 151, 647, 2907, 7105, 8399, 23256, 16795, 1], [1, 19, 151, 950, 3554, 7105, 23256, 31655, 16795, 41990, 1], [1, 19, 189, 1101, 3554, 14364, 30361, 31655, 87210, 58785, 1], [1, 21, 208, 1101, 5775, 17918, 30361, 95931, 118865, 58785, 149226, 1], [1, 22, 208, 1518, 6876, 17918, 67298, 126292, 118865, 326876, 208011, 1], [1, 22, 252, 1726, 6876, 31878, 85216, 126292, 389367, 445741, 208011, 534888, 1], [1, 24, 274, 1726, 10350, 38754, 85216, 303600, 515659, 445741, 1225785, 742899, 1], [1, 25, 274, 2275, 12076, 38754, 164450, 388816, 515659, 1562275, 1671526, 742899, 1931540, 1]]
theorem tk_0_3 : tabOk 0 (some 3) 27 tb_0_3 = true := by decide +kernel
theorem ck_0_3 : all10 (tbl tb_0_3) bl_0_3 = true := by decide +kernel
def tb_2_2 : List Nat := [1, 2, 5, 8, 20, 34, 85, 128, 320, 544, 1360, 2056, 5140, 8738, 21845, 32768, 81920, 139264, 348160, 526336, 1315840, 2236928, 5592320, 8388736, 20971840, 35652128, 89130320, 134744072]
def bl_2_2 : List (List Int) := [[1], [1], [1, 0], [1, 2], [1, 2, 0], [1, 4, 4], [1, 4, 4, 0], [1, 6, 14, 8], [1, 6, 14, 8, 0], [1, 8, 26, 48, 16], [1, 8, 26, 48, 16, 0], [1, 10, 44, 100, 164, 32], [1, 10, 44, 100, 164, 32, 0], [1, 12, 64, 208, 364, 560, 64], [1, 12, 64, 208, 364, 560, 64, 0], [1, 14, 90, 336, 910, 1288, 1912, 128], [1, 14, 90, 336, 910, 1288, 1912, 128, 0], [1, 16, 118, 544, 1582, 3808, 4488, 6528, 256], [1, 16, 118, 544, 1582, 3808, 4488, 6528, 256, 0], [1, 18, 152, 780, 2906, 6972, 15504, 15504, 22288, 512], [1, 18, 152, 780, 2906, 6972, 15504, 15504, 22288, 512, 0], [1, 20, 188, 1120, 4466, 14344, 29448, 62016, 53296, 76096, 1024], [1, 20, 188, 1120, 4466, 14344, 29448, 62016, 53296, 76096, 1024, 0], [1, 22, 230, 1496, 7084, 23276, 67068, 120912, 245156, 182688, 259808, 2048], [1, 22, 230, 1496, 7084, 23276, 67068, 120912, 245156, 182688, 259808, 2048, 0], [1, 24, 274, 2000, 10076, 40480, 113620, 301600, 486980, 961376, 625184, 887040, 4096], [1, 24, 274, 2000, 10076, 40480, 113620, 301600, 486980, 961376, 625184, 887040, 4096, 0]]
theorem tk_2_2 : tabOk 2 (some 2) 27 tb_2_2 = true := by decide +kernel
theorem ck_2_2 : all10 (tbl tb_2_2) bl_2_2 = true := by decide +kernel
def tb_2_3 : List Nat := [1, 2, 4, 10, 17, 32, 80, 136, 260, 650, 1105, 2048, 5120, 8704, 16640, 41600, 70720, 131104, 327760, 557192, 1065220, 2663050, 4527185, 8388608, 20971520, 35651584, 68157440, 170393600]
def bl_2_3 : List (List Int) := [[1], [1], [1, 1], [1, 1], [1, 3, 1], [1, 4, 1], [1, 4, 9, 1], [1, 6, 13, 1], [1, 7, 13, 27, 1], [1, 7, 27, 40, 1], [1, 9, 34, 40, 81, 1], [1, 10, 34, 110, 121, 1], [1, 10, 54, 144, 121, 243, 1], [1, 12, 64, 144, 429, 364, 1], [1, 13, 64, 272, 573, 364, 729, 1], [1, 13, 90, 336, 573, 1638, 1093, 1], [1, 15, 103, 336, 1245, 2211, 1093, 2187, 1], [1, 16, 103, 544, 1581, 2211, 6187, 3280, 1], [1, 16, 135, 647, 1581, 5373, 8398, 3280, 6561, 1], [1, 18, 151, 647, 2907, 6954, 8398, 23238, 9841, 1], [1, 19, 151, 949, 3554, 6954, 22306, 31636, 9841, 19683, 1], [1, 19, 189, 1100, 3554, 14364, 29260, 31636, 87021, 29524, 1], [1, 21, 208, 1100, 5754, 17918, 29260, 90156, 118657, 29524, 59049, 1], [1, 22, 208, 1518, 6854, 17918, 67298, 119416, 118657, 325358, 88573, 1], [1, 22, 252, 1726, 6854, 31626, 85216, 119416, 357489, 444015, 88573, 177147, 1], [1, 24, 274, 1726, 10350, 38480, 85216, 303600, 476905, 444015, 1215435, 265720, 1], [1, 25, 274, 2274, 12076, 38480, 162176, 388816, 476905, 1397825, 1659450, 265720, 531441, 1]]
theorem tk_2_3 : tabOk 2 (some 3) 27 tb_2_3 = true := by decide +kernel
theorem ck_2_3 : all10 (tbl tb_2_3) bl_2_3 = true := by decide +kernel
def tb_3_2 : List Nat := [1, 2, 5, 8, 20, 32, 80, 136, 340, 514, 1285, 2048, 5120, 8704, 21760, 32896, 82240, 131072, 327680, 557056, 1392640, 2105344, 5263360, 8390656, 20976640, 35660288, 89150720, 134774912]
def bl_3_2 : List (List Int) := [[1], [1], [1, 0], [1, 2], [1, 2, 0], [1, 4, 5], [1, 4, 5, 0], [1, 6, 13, 14], [1, 6, 13, 14, 0], [1, 8, 27, 40, 41], [1, 8, 27, 40, 41, 0], [1, 10, 44, 110, 121, 122], [1, 10, 44, 110, 121, 122, 0], [1, 12, 64, 208, 429, 364, 365], [1, 12, 64, 208, 429, 364, 365, 0], [1, 14, 90, 336, 909, 1638, 1093, 1094], [1, 14, 90, 336, 909, 1638, 1093, 1094, 0], [1, 16, 119, 544, 1581, 3792, 6188, 3280, 3281], [1, 16, 119, 544, 1581, 3792, 6188, 3280, 3281, 0], [1, 18, 151, 798, 2907, 6954, 15353, 23256, 9841, 9842], [1, 18, 151, 798, 2907, 6954, 15353, 23256, 9841, 9842, 0], [1, 20, 189, 1100, 4654, 14364, 29261, 60916, 87210, 29524, 29525], [1, 20, 189, 1100, 4654, 14364, 29261, 60916, 87210, 29524, 29525, 0], [1, 22, 230, 1518, 6854, 24772, 67297, 119438, 238303, 326876, 88573, 88574], [1, 22, 230, 1518, 6854, 24772, 67297, 119438, 238303, 326876, 88573, 88574, 0], [1, 24, 274, 2000, 10350, 38480, 123695, 303576, 477179, 922920, 1225785, 265720, 265721], [1, 24, 274, 2000, 10350, 38480, 123695, 303576, 477179, 922920, 1225785, 265720, 265721, 0]]
theorem tk_3_2 : tabOk 3 (some 2) 27 tb_3_2 = true := by decide +kernel
theorem ck_3_2 : all10 (tbl tb_3_2) bl_3_2 = true := by decide +kernel
def tb_3_3 : List Nat := [1, 2, 4, 10, 17, 32, 80, 136, 256, 640, 1088, 2080, 5200, 8840, 16388, 40970, 69649, 131072, 327680, 557056, 1064960, 2662400, 4526080, 8390656, 20976640, 35660288, 67108864, 167772160]
def bl_3_3 : List (List Int) := [[1], [1], [1, 1], [1, 1], [1, 3, 1], [1, 4, 1], [1, 4, 9, 1], [1, 6, 13, 1], [1, 7, 13, 28, 1], [1, 7, 27, 41, 1], [1, 9, 34, 41, 90, 1], [1, 10, 34, 109, 131, 1], [1, 10, 54, 143, 131, 297, 1], [1, 12, 64, 143, 417, 428, 1], [1, 13, 64, 273, 560, 428, 1000, 1], [1, 13, 90, 337, 560, 1548, 1428, 1], [1, 15, 103, 337, 1260, 2108, 1428, 3417, 1], [1, 16, 103, 544, 1597, 2108, 5644, 4845, 1], [1, 16, 135, 647, 1597, 5508, 7752, 4845, 11799, 1], [1, 18, 151, 647, 2907, 7105, 7752, 20349, 16644, 1], [1, 19, 151, 949, 3554, 7105, 23256, 28101, 16644, 41041, 1], [1, 19, 189, 1100, 3554, 14364, 30361, 28101, 72846, 57685, 1], [1, 21, 208, 1100, 5754, 17918, 30361, 95931, 100947, 57685, 143472, 1], [1, 22, 208, 1518, 6854, 17918, 67297, 126292, 100947, 259579, 201157, 1], [1, 22, 252, 1726, 6854, 31626, 85215, 126292, 389367, 360526, 201157, 503262, 1], [1, 24, 274, 1726, 10350, 38480, 85215, 303576, 515659, 360526, 922209, 704419, 1], [1, 25, 274, 2275, 12076, 38480, 162175, 388791, 515659, 1562275, 1282735, 704419, 1769365, 1]]
theorem tk_3_3 : tabOk 3 (some 3) 27 tb_3_3 = true := by decide +kernel
theorem ck_3_3 : all10 (tbl tb_3_3) bl_3_3 = true := by decide +kernel
def tb_5_2 : List Nat := [1, 2, 5, 8, 20, 32, 80, 128, 320, 512, 1280, 2176, 5440, 8224, 20560, 32776, 81940, 131074, 327685, 524288, 1310720, 2228224, 5570560, 8421376, 21053440, 33562624, 83906560, 134219776]
def bl_5_2 : List (List Int) := [[1], [1], [1, 0], [1, 2], [1, 2, 0], [1, 4, 5], [1, 4, 5, 0], [1, 6, 14, 14], [1, 6, 14, 14, 0], [1, 8, 27, 48, 42], [1, 8, 27, 48, 42, 0], [1, 10, 43, 110, 165, 132], [1, 10, 43, 110, 165, 132, 0], [1, 12, 65, 196, 428, 572, 429], [1, 12, 65, 196, 428, 572, 429, 0], [1, 14, 90, 350, 820, 1624, 2001, 1430], [1, 14, 90, 350, 820, 1624, 2001, 1430, 0], [1, 16, 119, 544, 1700, 3264, 6069, 7056, 4861], [1, 16, 119, 544, 1700, 3264, 6069, 7056, 4861, 0], [1, 18, 152, 798, 2907, 7752, 12597, 22458, 25042, 16778], [1, 18, 152, 798, 2907, 7752, 12597, 22458, 25042, 16778, 0], [1, 20, 188, 1120, 4655, 14364, 33915, 47652, 82555, 89320, 58598], [1, 20, 188, 1120, 4655, 14364, 33915, 47652, 82555, 89320, 58598, 0], [1, 22, 230, 1496, 7083, 24794, 67298, 144210, 177859, 302082, 319793, 206516], [1, 22, 230, 1496, 7083, 24794, 67298, 144210, 177859, 302082, 319793, 206516, 0], [1, 24, 275, 2000, 10075, 40456, 123969, 303600, 600875, 657800, 1101816, 1148184, 732825], [1, 24, 275, 2000, 10075, 40456, 123969, 303600, 600875, 657800, 1101816, 1148184, 732825, 0]]
theorem tk_5_2 : tabOk 5 (some 2) 27 tb_5_2 = true := by decide +kernel
theorem ck_5_2 : all10 (tbl tb_5_2) bl_5_2 = true := by decide +kernel
def tb_5_3 : List Nat := [1, 2, 4, 10, 17, 32, 80, 136, 256, 640, 1088, 2048, 5120, 8704, 16384, 40960, 69632, 133120, 332800, 565760, 1048832, 2622080, 4457536, 8388640, 20971600, 35651720, 67108868, 167772170]
def bl_5_3 : List (List Int) := [[1], [1], [1, 1], [1, 1], [1, 3, 1], [1, 4, 1], [1, 4, 9, 1], [1, 6, 13, 1], [1, 7, 13, 28, 1], [1, 7, 27, 41, 1], [1, 9, 34, 41, 90, 1], [1, 10, 34, 110, 131, 1], [1, 10, 54, 144, 131, 297, 1], [1, 12, 64, 144, 429, 428, 1], [1, 13, 64, 273, 573, 428, 1001, 1], [1, 13, 90, 337, 573, 1638, 1429, 1], [1, 15, 103, 337, 1260, 2211, 1429, 3432, 1], [1, 16, 103, 543, 1597, 2211, 6188, 4861, 1], [1, 16, 135, 646, 1597, 5508, 8399, 4861, 11934, 1], [1, 18, 151, 646, 2889, 7105, 8399, 23256, 16795, 1], [1, 19, 151, 950, 3535, 7105, 23255, 31655, 16795, 41990, 1], [1, 19, 189, 1101, 3535, 14175, 30360, 31655, 87210, 58785, 1], [1, 21, 208, 1101, 5775, 17710, 30360, 95910, 118865, 58785, 149226, 1], [1, 22, 208, 1518, 6876, 17710, 65780, 126270, 118865, 326875, 208011, 1], [1, 22, 252, 1726, 6876, 31878, 83490, 126270, 389115, 445740, 208011, 534888, 1], [1, 24, 274, 1726, 10350, 38754, 83490, 293250, 515385, 445740, 1225761, 742899, 1], [1, 25, 274, 2275, 12076, 38754, 164450, 376740, 515385, 1560000, 1671501, 742899, 1931539, 1]]
theorem tk_5_3 : tabOk 5 (some 3) 27 tb_5_3 = true := by decide +kernel
theorem ck_5_3 : all10 (tbl tb_5_3) bl_5_3 = true := by decide +kernel
def tb_5_5 : List Nat := [1, 2, 4, 8, 16, 40, 68, 130, 257, 512, 1280, 2176, 4160, 8224, 16384, 40960, 69632, 133120, 263168, 524288, 1310720, 2228224, 4259840, 8421376, 16777216, 41943040, 71303168, 136314880]
def bl_5_5 : List (List Int) := [[1], [1], [1, 1], [1, 2], [1, 3, 2], [1, 3, 5], [1, 5, 8, 5], [1, 6, 8, 13], [1, 7, 20, 21, 13], [1, 8, 27, 21, 34], [1, 8, 35, 75, 55, 34], [1, 10, 43, 110, 55, 89], [1, 11, 43, 153, 275, 144, 89], [1, 12, 65, 196, 428, 144, 233], [1, 13, 77, 196, 624, 1001, 377, 233], [1, 13, 90, 350, 820, 1625, 377, 610], [1, 15, 103, 440, 820, 2445, 3640, 987, 610], [1, 16, 103, 543, 1700, 3265, 6085, 987, 1597], [1, 17, 135, 646, 2243, 3265, 9350, 13260, 2584, 1597], [1, 18, 152, 646, 2889, 7752, 12615, 22610, 2584, 4181], [1, 18, 170, 950, 3535, 10641, 12615, 35225, 48450, 6765, 4181], [1, 20, 188, 1120, 3535, 14176, 33915, 47840, 83675, 6765, 10946], [1, 21, 188, 1308, 5775, 17711, 48091, 47840, 131515, 177650, 17711, 10946], [1, 22, 230, 1496, 7083, 17711, 65802, 144210, 179355, 309165, 17711, 28657], [1, 23, 252, 1496, 8579, 31878, 83513, 210012, 179355, 488520, 653752, 46368, 28657], [1, 23, 275, 2000, 10075, 40457, 83513, 293525, 600875, 667875, 1142272, 46368, 75025], [1, 25, 298, 2275, 10075, 50532, 164450, 377038, 894400, 667875, 1810147, 2414425, 121393, 75025]]
theorem tk_5_5 : tabOk 5 (some 5) 27 tb_5_5 = true := by decide +kernel
theorem ck_5_5 : all10 (tbl tb_5_5) bl_5_5 = true := by decide +kernel
def tb_7_2 : List Nat := [1, 2, 5, 8, 20, 32, 80, 128, 320, 512, 1280, 2048, 5120, 8192, 20480, 34816, 87040, 131584, 328960, 524416, 1311040, 2097184, 5242960, 8388616, 20971540, 33554434, 83886085, 134217728]
def bl_7_2 : List (List Int) := [[1], [1], [1, 0], [1, 2], [1, 2, 0], [1, 4, 5], [1, 4, 5, 0], [1, 6, 14, 14], [1, 6, 14, 14, 0], [1, 8, 27, 48, 42], [1, 8, 27, 48, 42, 0], [1, 10, 44, 110, 165, 132], [1, 10, 44, 110, 165, 132, 0], [1, 12, 65, 208, 429, 572, 429], [1, 12, 65, 208, 429, 572, 429, 0], [1, 14, 89, 350, 910, 1638, 2002, 1430], [1, 14, 89, 350, 910, 1638, 2002, 1430, 0], [1, 16, 119, 528, 1699, 3808, 6188, 7072, 4862], [1, 16, 119, 528, 1699, 3808, 6188, 7072, 4862, 0], [1, 18, 152, 798, 2755, 7734, 15503, 23256, 25194, 16796], [1, 18, 152, 798, 2755, 7734, 15503, 23256, 25194, 16796, 0], [1, 20, 189, 1120, 4655, 13244, 33726, 61996, 87209, 90440, 58786], [1, 20, 189, 1120, 4655, 13244, 33726, 61996, 87209, 90440, 58786, 0], [1, 22, 230, 1518, 7084, 24794, 60214, 142692, 244927, 326854, 326875, 208012], [1, 22, 230, 1518, 7084, 24794, 60214, 142692, 244927, 326854, 326875, 208012, 0], [1, 24, 275, 2000, 10350, 40480, 123970, 263120, 590525, 959400, 1225510, 1188616, 742899], [1, 24, 275, 2000, 10350, 40480, 123970, 263120, 590525, 959400, 1225510, 1188616, 742899, 0]]
theorem tk_7_2 : tabOk 7 (some 2) 27 tb_7_2 = true := by decide +kernel
theorem ck_7_2 : all10 (tbl tb_7_2) bl_7_2 = true := by decide +kernel
def tb_7_3 : List Nat := [1, 2, 4, 10, 17, 32, 80, 136, 256, 640, 1088, 2048, 5120, 8704, 16384, 40960, 69632, 131072, 327680, 557056, 1048576, 2621440, 4456448, 8519680, 21299200, 36208640, 67125248, 167813120]
def bl_7_3 : List (List Int) := [[1], [1], [1, 1], [1, 1], [1, 3, 1], [1, 4, 1], [1, 4, 9, 1], [1, 6, 13, 1], [1, 7, 13, 28, 1], [1, 7, 27, 41, 1], [1, 9, 34, 41, 90, 1], [1, 10, 34, 110, 131, 1], [1, 10, 54, 144, 131, 297, 1], [1, 12, 64, 144, 429, 428, 1], [1, 13, 64, 273, 573, 428, 1001, 1], [1, 13, 90, 337, 573, 1638, 1429, 1], [1, 15, 103, 337, 1260, 2211, 1429, 3432, 1], [1, 16, 103, 544, 1597, 2211, 6188, 4861, 1], [1, 16, 135, 647, 1597, 5508, 8399, 4861, 11934, 1], [1, 18, 151, 647, 2907, 7105, 8399, 23256, 16795, 1], [1, 19, 151, 950, 3554, 7105, 23256, 31655, 16795, 41990, 1], [1, 19, 189, 1101, 3554, 14364, 30361, 31655, 87210, 58785, 1], [1, 21, 208, 1101, 5775, 17918, 30361, 95931, 118865, 58785, 149226, 1], [1, 22, 208, 1517, 6876, 17918, 67298, 126292, 118865, 326876, 208011, 1], [1, 22, 252, 1725, 6876, 31878, 85216, 126292, 389367, 445741, 208011, 534888, 1], [1, 24, 274, 1725, 10326, 38754, 85216, 303600, 515659, 445741, 1225785, 742899, 1], [1, 25, 274, 2275, 12051, 38754, 164449, 388816, 515659, 1562275, 1671526, 742899, 1931540, 1]]
theorem tk_7_3 : tabOk 7 (some 3) 27 tb_7_3 = true := by decide +kernel
theorem ck_7_3 : all10 (tbl tb_7_3) bl_7_3 = true := by decide +kernel
def tb_7_4 : List Nat := [1, 2, 4, 8, 20, 34, 65, 128, 320, 544, 1040, 2048, 5120, 8704, 16640, 32768, 81920, 139264, 266240, 524288, 1310720, 2228224, 4259840, 8388608, 20971520, 35651584, 68157440, 134217728]
def bl_7_4 : List (List Int) := [[1], [1], [1, 1], [1, 2], [1, 2, 2], [1, 4, 4], [1, 5, 4, 4], [1, 6, 14, 8], [1, 6, 20, 8, 8], [1, 8, 26, 48, 16], [1, 9, 26, 74, 16, 16], [1, 10, 44, 100, 165, 32], [1, 10, 54, 100, 265, 32, 32], [1, 12, 64, 208, 365, 572, 64], [1, 13, 64, 272, 365, 937, 64, 64], [1, 14, 90, 336, 910, 1302, 2002, 128], [1, 14, 104, 336, 1246, 1302, 3304, 128, 128], [1, 16, 118, 544, 1582, 3808, 4606, 7072, 256], [1, 17, 118, 662, 1582, 5390, 4606, 11678, 256, 256], [1, 18, 152, 780, 2907, 6972, 15504, 16284, 25194, 512], [1, 18, 170, 780, 3687, 6972, 22476, 16284, 41478, 512, 512], [1, 20, 188, 1120, 4467, 14364, 29448, 62016, 57762, 90440, 1024], [1, 21, 188, 1308, 4467, 18831, 29448, 91464, 57762, 148202, 1024, 1024], [1, 22, 230, 1496, 7084, 23298, 67298, 120912, 245157, 205964, 326876, 2048], [1, 22, 252, 1496, 8580, 23298, 90596, 120912, 366069, 205964, 532840, 2048, 2048], [1, 24, 274, 2000, 10076, 40480, 113894, 303600, 486981, 961400, 738804, 1188640, 4096], [1, 25, 274, 2274, 10076, 50556, 113894, 417494, 486981, 1448381, 738804, 1927444, 4096, 4096]]
theorem tk_7_4 : tabOk 7 (some 4) 27 tb_7_4 = true := by decide +kernel
theorem ck_7_4 : all10 (tbl tb_7_4) bl_7_4 = true := by decide +kernel
def tb_7_7 : List Nat := [1, 2, 4, 8, 16, 32, 64, 160, 272, 520, 1028, 2050, 4097, 8192, 20480, 34816, 66560, 131584, 262400, 524416, 1048576, 2621440, 4456448, 8519680, 16842752, 33587200, 67125248, 134217728]
def bl_7_7 : List (List Int) := [[1], [1], [1, 1], [1, 2], [1, 3, 2], [1, 4, 5], [1, 5, 9, 5], [1, 5, 14, 14], [1, 7, 19, 28, 14], [1, 8, 19, 47, 42], [1, 9, 35, 66, 89, 42], [1, 10, 44, 66, 155, 131], [1, 11, 54, 154, 221, 286, 131], [1, 12, 65, 208, 221, 507, 417], [1, 12, 77, 273, 637, 728, 924, 417], [1, 14, 89, 350, 910, 728, 1652, 1341], [1, 15, 89, 439, 1260, 2548, 2380, 2993, 1341], [1, 16, 119, 528, 1699, 3808, 2380, 5373, 4334], [1, 17, 135, 528, 2227, 5507, 9996, 7753, 9707, 4334], [1, 18, 152, 798, 2755, 7734, 15503, 7753, 17460, 14041], [1, 19, 170, 950, 2755, 10489, 23237, 38760, 25213, 31501, 14041], [1, 19, 189, 1120, 4655, 13244, 33726, 61997, 25213, 56714, 45542], [1, 21, 208, 1309, 5775, 13244, 46970, 95723, 149226, 81927, 102256, 45542], [1, 22, 208, 1517, 7084, 24794, 60214, 142693, 244949, 81927, 184183, 147798], [1, 23, 252, 1725, 8601, 31878, 60214, 202907, 387642, 572033, 266110, 331981, 147798], [1, 24, 275, 1725, 10326, 40479, 123970, 263121, 590549, 959675, 266110, 598091, 479779], [1, 25, 299, 2275, 12051, 50805, 164449, 263121, 853670, 1550224, 2187185, 864201, 1077870, 479779]]
theorem tk_7_7 : tabOk 7 (some 7) 27 tb_7_7 = true := by decide +kernel
theorem ck_7_7 : all10 (tbl tb_7_7) bl_7_7 = true := by decide +kernel
def tb_11_2 : List Nat := [1, 2, 5, 8, 20, 32, 80, 128, 320, 512, 1280, 2048, 5120, 8192, 20480, 32768, 81920, 131072, 327680, 524288, 1310720, 2097152, 5242880, 8912896, 22282240, 33685504, 84213760, 134250496]
def bl_11_2 : List (List Int) := [[1], [1], [1, 0], [1, 2], [1, 2, 0], [1, 4, 5], [1, 4, 5, 0], [1, 6, 14, 14], [1, 6, 14, 14, 0], [1, 8, 27, 48, 42], [1, 8, 27, 48, 42, 0], [1, 10, 44, 110, 165, 132], [1, 10, 44, 110, 165, 132, 0], [1, 12, 65, 208, 429, 572, 429], [1, 12, 65, 208, 429, 572, 429, 0], [1, 14, 90, 350, 910, 1638, 2002, 1430], [1, 14, 90, 350, 910, 1638, 2002, 1430, 0], [1, 16, 119, 544, 1700, 3808, 6188, 7072, 4862], [1, 16, 119, 544, 1700, 3808, 6188, 7072, 4862, 0], [1, 18, 152, 798, 2907, 7752, 15504, 23256, 25194, 16796], [1, 18, 152, 798, 2907, 7752, 15504, 23256, 25194, 16796, 0], [1, 20, 189, 1120, 4655, 14364, 33915, 62016, 87210, 90440, 58786], [1, 20, 189, 1120, 4655, 14364, 33915, 62016, 87210, 90440, 58786, 0], [1, 22, 229, 1518, 7084, 24794, 67298, 144210, 245157, 326876, 326876, 208012], [1, 22, 229, 1518, 7084, 24794, 67298, 144210, 245157, 326876, 326876, 208012, 0], [1, 24, 275, 1976, 10349, 40480, 123970, 303600, 600875, 961400, 1225785, 1188640, 742900], [1, 24, 275, 1976, 10349, 40480, 123970, 303600, 600875, 961400, 1225785, 1188640, 742900, 0]]
theorem tk_11_2 : tabOk 11 (some 2) 27 tb_11_2 = true := by decide +kernel
theorem ck_11_2 : all10 (tbl tb_11_2) bl_11_2 = true := by decide +kernel
def tb_11_3 : List Nat := [1, 2, 4, 10, 17, 32, 80, 136, 256, 640, 1088, 2048, 5120, 8704, 16384, 40960, 69632, 131072, 327680, 557056, 1048576, 2621440, 4456448, 8388608, 20971520, 35651584, 67108864, 167772160]
def bl_11_3 : List (List Int) := [[1], [1], [1, 1], [1, 1], [1, 3, 1], [1, 4, 1], [1, 4, 9, 1], [1, 6, 13, 1], [1, 7, 13, 28, 1], [1, 7, 27, 41, 1], [1, 9, 34, 41, 90, 1], [1, 10, 34, 110, 131, 1], [1, 10, 54, 144, 131, 297, 1], [1, 12, 64, 144, 429, 428, 1], [1, 13, 64, 273, 573, 428, 1001, 1], [1, 13, 90, 337, 573, 1638, 1429, 1], [1, 15, 103, 337, 1260, 2211, 1429, 3432, 1], [1, 16, 103, 544, 1597, 2211, 6188, 4861, 1], [1, 16, 135, 647, 1597, 5508, 8399, 4861, 11934, 1], [1, 18, 151, 647, 2907, 7105, 8399, 23256, 16795, 1], [1, 19, 151, 950, 3554, 7105, 23256, 31655, 16795, 41990, 1], [1, 19, 189, 1101, 3554, 14364, 30361, 31655, 87210, 58785, 1], [1, 21, 208, 1101, 5775, 17918, 30361, 95931, 118865, 58785, 149226, 1], [1, 22, 208, 1518, 6876, 17918, 67298, 126292, 118865, 326876, 208011, 1], [1, 22, 252, 1726, 6876, 31878, 85216, 126292, 389367, 445741, 208011, 534888, 1], [1, 24, 274, 1726, 10350, 38754, 85216, 303600, 515659, 445741, 1225785, 742899, 1], [1, 25, 274, 2275, 12076, 38754, 164450, 388816, 515659, 1562275, 1671526, 742899, 1931540, 1]]
theorem tk_11_3 : tabOk 11 (some 3) 27 tb_11_3 = true := by decide +kernel
theorem ck_11_3 : all10 (tbl tb_11_3) bl_11_3 = true := by decide +kernel
def tb_11_5 : List Nat := [1, 2, 4, 8, 16, 40, 68, 130, 257, 512, 1280, 2176, 4160, 8224, 16384, 40960, 69632, 133120, 263168, 524288, 1310720, 2228224, 4259840, 8421376, 16777216, 41943040, 71303168, 136314880]
def bl_11_5 : List (List Int) := [[1], [1], [1, 1], [1, 2], [1, 3, 2], [1, 3, 5], [1, 5, 8, 5], [1, 6, 8, 13], [1, 7, 20, 21, 13], [1, 8, 27, 21, 34], [1, 8, 35, 75, 55, 34], [1, 10, 43, 110, 55, 89], [1, 11, 43, 153, 275, 144, 89], [1, 12, 65, 196, 428, 144, 233], [1, 13, 77, 196, 624, 1001, 377, 233], [1, 13, 90, 350, 820, 1625, 377, 610], [1, 15, 103, 440, 820, 2445, 3640, 987, 610], [1, 16, 103, 543, 1700, 3265, 6085, 987, 1597], [1, 17, 135, 646, 2243, 3265, 9350, 13260, 2584, 1597], [1, 18, 152, 646, 2889, 7752, 12615, 22610, 2584, 4181], [1, 18, 170, 950, 3535, 10641, 12615, 35225, 48450, 6765, 4181], [1, 20, 188, 1120, 3535, 14176, 33915, 47840, 83675, 6765, 10946], [1, 21, 188, 1308, 5775, 17711, 48091, 47840, 131515, 177650, 17711, 10946], [1, 22, 230, 1496, 7083, 17711, 65802, 144210, 179355, 309165, 17711, 28657], [1, 23, 252, 1496, 8579, 31878, 83513, 210012, 179355, 488520, 653752, 46368, 28657], [1, 23, 275, 2000, 10075, 40457, 83513, 293525, 600875, 667875, 1142272, 46368, 75025], [1, 25, 298, 2275, 10075, 50532, 164450, 377038, 894400, 667875, 1810147, 2414425, 121393, 75025]]
theorem tk_11_5 : tabOk 11 (some 5) 27 tb_11_5 = true := by decide +kernel
theorem ck_11_5 : all10 (tbl tb_11_5) bl_11_5 = true := by decide +kernel
def tb_11_6 : List Nat := [1, 2, 4, 8, 16, 32, 80, 136, 260, 514, 1025, 2048, 5120, 8704, 16640, 32896, 65600, 131072, 327680, 557056, 1064960, 2105344, 4198400, 8388608, 20971520, 35651584, 68157440, 134742016]
def bl_11_6 : List (List Int) := [[1], [1], [1, 1], [1, 2], [1, 3, 2], [1, 4, 5], [1, 4, 9, 5], [1, 6, 13, 14], [1, 7, 13, 27, 14], [1, 8, 27, 40, 41], [1, 9, 35, 40, 81, 41], [1, 10, 44, 110, 121, 122], [1, 10, 54, 154, 121, 243, 122], [1, 12, 64, 208, 429, 364, 365], [1, 13, 64, 272, 637, 364, 729, 365], [1, 14, 90, 336, 909, 1638, 1093, 1094], [1, 15, 104, 336, 1245, 2547, 1093, 2187, 1094], [1, 16, 119, 544, 1581, 3792, 6188, 3280, 3281], [1, 16, 135, 663, 1581, 5373, 9980, 3280, 6561, 3281], [1, 18, 151, 798, 2907, 6954, 15353, 23256, 9841, 9842], [1, 19, 151, 949, 3705, 6954, 22307, 38609, 9841, 19683, 9842], [1, 20, 189, 1100, 4654, 14364, 29261, 60916, 87210, 29524, 29525], [1, 21, 209, 1100, 5754, 19018, 29261, 90177, 148126, 29524, 59049, 29525], [1, 22, 230, 1518, 6854, 24772, 67298, 119438, 238303, 326876, 88573, 88574], [1, 22, 252, 1748, 6854, 31626, 92070, 119438, 357741, 565179, 88573, 177147, 88574], [1, 24, 274, 2000, 10350, 38480, 123696, 303600, 477179, 922920, 1225785, 265720, 265721], [1, 25, 274, 2274, 12350, 38480, 162176, 427296, 477179, 1400099, 2148705, 265720, 531441, 265721]]
theorem tk_11_6 : tabOk 11 (some 6) 27 tb_11_6 = true := by decide +kernel
theorem ck_11_6 : all10 (tbl tb_11_6) bl_11_6 = true := by decide +kernel
def tb_11_11 : List Nat := [1, 2, 4, 8, 16, 32, 64, 128, 256, 512, 1024, 2560, 4352, 8320, 16448, 32800, 65552, 131080, 262148, 524290, 1048577, 2097152, 5242880, 8912896, 17039360, 33685504, 67174400, 134250496]
def bl_11_11 : List (List Int) := [[1], [1], [1, 1], [1, 2], [1, 3, 2], [1, 4, 5], [1, 5, 9, 5], [1, 6, 14, 14], [1, 7, 20, 28, 14], [1, 8, 27, 48, 42], [1, 9, 35, 75, 90, 42], [1, 9, 44, 110, 165, 132], [1, 11, 53, 154, 275, 297, 132], [1, 12, 53, 207, 429, 572, 429], [1, 13, 77, 260, 636, 1001, 1001, 429], [1, 14, 90, 260, 896, 1637, 2002, 1430], [1, 15, 104, 440, 1156, 2533, 3639, 3432, 1430], [1, 16, 119, 544, 1156, 3689, 6172, 7071, 4862], [1, 17, 135, 663, 2244, 4845, 9861, 13243, 11933, 4862], [1, 18, 152, 798, 2907, 4845, 14706, 23104, 25176, 16795], [1, 19, 170, 950, 3705, 10659, 19551, 37810, 48280, 41971, 16795], [1, 20, 189, 1120, 4655, 14364, 19551, 57361, 86090, 90251, 58766], [1, 20, 209, 1309, 5775, 19019, 48279, 76912, 143451, 176341, 149017, 58766], [1, 22, 229, 1518, 7084, 24794, 67298, 76912, 220363, 319792, 325358, 207783], [1, 23, 229, 1747, 8602, 31878, 92092, 211508, 297275, 540155, 645150, 533141, 207783], [1, 24, 275, 1976, 10349, 40480, 123970, 303600, 297275, 837430, 1185305, 1178291, 740924], [1, 25, 299, 1976, 12325, 50829, 164450, 427570, 904475, 1134705, 2022735, 2363596, 1919215, 740924]]
theorem tk_11_11 : tabOk 11 (some 11) 27 tb_11_11 = true := by decide +kernel
theorem ck_11_11 : all10 (tbl tb_11_11) bl_11_11 = true := by decide +kernel
def tb_13_2 : List Nat := [1, 2, 5, 8, 20, 32, 80, 128, 320, 512, 1280, 2048, 5120, 8192, 20480, 32768, 81920, 131072, 327680, 524288, 1310720, 2097152, 5242880, 8388608, 20971520, 33554432, 83886080, 142606336]
def bl_13_2 : List (List Int) := [[1], [1], [1, 0], [1, 2], [1, 2, 0], [1, 4, 5], [1, 4, 5, 0], [1, 6, 14, 14], [1, 6, 14, 14, 0], [1, 8, 27, 48, 42], [1, 8, 27, 48, 42, 0], [1, 10, 44, 110, 165, 132], [1, 10, 44, 110, 165, 132, 0], [1, 12, 65, 208, 429, 572, 429], [1, 12, 65, 208, 429, 572, 429, 0], [1, 14, 90, 350, 910, 1638, 2002, 1430], [1, 14, 90, 350, 910, 1638, 2002, 1430, 0], [1, 16, 119, 544, 1700, 3808, 6188, 7072, 4862], [1, 16, 119, 544, 1700, 3808, 6188, 7072, 4862, 0], [1, 18, 152, 798, 2907, 7752, 15504, 23256, 25194, 16796], [1, 18, 152, 798, 2907, 7752, 15504, 23256, 25194, 16796, 0], [1, 20, 189, 1120, 4655, 14364, 33915, 62016, 87210, 90440, 58786], [1, 20, 189, 1120, 4655, 14364, 33915, 62016, 87210, 90440, 58786, 0], [1, 22, 230, 1518, 7084, 24794, 67298, 144210, 245157, 326876, 326876, 208012], [1, 22, 230, 1518, 7084, 24794, 67298, 144210, 245157, 326876, 326876, 208012, 0], [1, 24, 275, 2000, 10350, 40480, 123970, 303600, 600875, 961400, 1225785, 1188640, 742900], [1, 24, 275, 2000, 10350, 40480, 123970, 303600, 600875, 961400, 1225785, 1188640, 742900, 0]]
theorem tk_13_2 : tabOk 13 (some 2) 27 tb_13_2 = true := by decide +kernel
theorem ck_13_2 : all10 (tbl tb_13_2) bl_13_2 = true := by decide +kernel
def tb_13_3 : List Nat := [1, 2, 4, 10, 17, 32, 80, 136, 256, 640, 1088, 2048, 5120, 8704, 16384, 40960, 69632, 131072, 327680, 557056, 1048576, 2621440, 4456448, 8388608, 20971520, 35651584, 67108864, 167772160]
def bl_13_3 : List (List Int) := [[1], [1], [1, 1], [1, 1], [1, 3, 1], [1, 4, 1], [1, 4, 9, 1], [1, 6, 13, 1], [1, 7, 13, 28, 1], [1, 7, 27, 41, 1], [1, 9, 34, 41, 90, 1], [1, 10, 34, 110, 131, 1], [1, 10, 54, 144, 131, 297, 1], [1, 12, 64, 144, 429, 428, 1], [1, 13, 64, 273, 573, 428, 1001, 1], [1, 13, 90, 337, 573, 1638, 1429, 1], [1, 15, 103, 337, 1260, 2211, 1429, 3432, 1], [1, 16, 103, 544, 1597, 2211, 6188, 4861, 1], [1, 16, 135, 647, 1597, 5508, 8399, 4861, 11934, 1], [1, 18, 151, 647, 2907, 7105, 8399, 23256, 16795, 1], [1, 19, 151, 950, 3554, 7105, 23256, 31655, 16795, 41990, 1], [1, 19, 189, 1101, 3554, 14364, 30361, 31655, 87210, 58785, 1], [1, 21, 208, 1101, 5775, 17918, 30361, 95931, 118865, 58785, 149226, 1], [1, 22, 208, 1518, 6876, 17918, 67298, 126292, 118865, 326876, 208011, 1], [1, 22, 252, 1726, 6876, 31878, 85216, 126292, 389367, 445741, 208011, 534888, 1], [1, 24, 274, 1726, 10350, 38754, 85216, 303600, 515659, 445741, 1225785, 742899, 1], [1, 25, 274, 2275, 12076, 38754, 164450, 388816, 515659, 1562275, 1671526, 742899, 1931540, 1]]
theorem tk_13_3 : tabOk 13 (some 3) 27 tb_13_3 = true := by decide +kernel
theorem ck_13_3 : all10 (tbl tb_13_3) bl_13_3 = true := by decide +kernel
def tb_13_6 : List Nat := [1, 2, 4, 8, 16, 32, 80, 136, 260, 514, 1025, 2048, 5120, 8704, 16640, 32896, 65600, 131072, 327680, 557056, 1064960, 2105344, 4198400, 8388608, 20971520, 35651584, 68157440, 134742016]
def bl_13_6 : List (List Int) := [[1], [1], [1, 1], [1, 2], [1, 3, 2], [1, 4, 5], [1, 4, 9, 5], [1, 6, 13, 14], [1, 7, 13, 27, 14], [1, 8, 27, 40, 41], [1, 9, 35, 40, 81, 41], [1, 10, 44, 110, 121, 122], [1, 10, 54, 154, 121, 243, 122], [1, 12, 64, 208, 429, 364, 365], [1, 13, 64, 272, 637, 364, 729, 365], [1, 14, 90, 336, 909, 1638, 1093, 1094], [1, 15, 104, 336, 1245, 2547, 1093, 2187, 1094], [1, 16, 119, 544, 1581, 3792, 6188, 3280, 3281], [1, 16, 135, 663, 1581, 5373, 9980, 3280, 6561, 3281], [1, 18, 151, 798, 2907, 6954, 15353, 23256, 9841, 9842], [1, 19, 151, 949, 3705, 6954, 22307, 38609, 9841, 19683, 9842], [1, 20, 189, 1100, 4654, 14364, 29261, 60916, 87210, 29524, 29525], [1, 21, 209, 1100, 5754, 19018, 29261, 90177, 148126, 29524, 59049, 29525], [1, 22, 230, 1518, 6854, 24772, 67298, 119438, 238303, 326876, 88573, 88574], [1, 22, 252, 1748, 6854, 31626, 92070, 119438, 357741, 565179, 88573, 177147, 88574], [1, 24, 274, 2000, 10350, 38480, 123696, 303600, 477179, 922920, 1225785, 265720, 265721], [1, 25, 274, 2274, 12350, 38480, 162176, 427296, 477179, 1400099, 2148705, 265720, 531441, 265721]]
theorem tk_13_6 : tabOk 13 (some 6) 27 tb_13_6 = true := by decide +kernel
theorem ck_13_6 : all10 (tbl tb_13_6) bl_13_6 = true := by decide +kernel
def tb_13_7 : List Nat := [1, 2, 4, 8, 16, 32, 64, 160, 272, 520, 1028, 2050, 4097, 8192, 20480, 34816, 66560, 131584, 262400, 524416, 1048576, 2621440, 4456448, 8519680, 16842752, 33587200, 67125248, 134217728]
def bl_13_7 : List (List Int) := [[1], [1], [1, 1], [1, 2], [1, 3, 2], [1, 4, 5], [1, 5, 9, 5], [1, 5, 14, 14], [1, 7, 19, 28, 14], [1, 8, 19, 47, 42], [1, 9, 35, 66, 89, 42], [1, 10, 44, 66, 155, 131], [1, 11, 54, 154, 221, 286, 131], [1, 12, 65, 208, 221, 507, 417], [1, 12, 77, 273, 637, 728, 924, 417], [1, 14, 89, 350, 910, 728, 1652, 1341], [1, 15, 89, 439, 1260, 2548, 2380, 2993, 1341], [1, 16, 119, 528, 1699, 3808, 2380, 5373, 4334], [1, 17, 135, 528, 2227, 5507, 9996, 7753, 9707, 4334], [1, 18, 152, 798, 2755, 7734, 15503, 7753, 17460, 14041], [1, 19, 170, 950, 2755, 10489, 23237, 38760, 25213, 31501, 14041], [1, 19, 189, 1120, 4655, 13244, 33726, 61997, 25213, 56714, 45542], [1, 21, 208, 1309, 5775, 13244, 46970, 95723, 149226, 81927, 102256, 45542], [1, 22, 208, 1517, 7084, 24794, 60214, 142693, 244949, 81927, 184183, 147798], [1, 23, 252, 1725, 8601, 31878, 60214, 202907, 387642, 572033, 266110, 331981, 147798], [1, 24, 275, 1725, 10326, 40479, 123970, 263121, 590549, 959675, 266110, 598091, 479779], [1, 25, 299, 2275, 12051, 50805, 164449, 263121, 853670, 1550224, 2187185, 864201, 1077870, 479779]]
theorem tk_13_7 : tabOk 13 (some 7) 27 tb_13_7 = true := by decide +kernel
theorem ck_13_7 : all10 (tbl tb_13_7) bl_13_7 = true := by decide +kernel
def tb_13_13 : List Nat := [1, 2, 4, 8, 16, 32, 64, 128, 256, 512, 1024, 2048, 4096, 10240, 17408, 33280, 65792, 131200, 262208, 524320, 1048592, 2097160, 4194308, 8388610, 16777217, 33554432, 83886080, 142606336]
def bl_13_13 : List (List Int) := [[1], [1], [1, 1], [1, 2], [1, 3, 2], [1, 4, 5], [1, 5, 9, 5], [1, 6, 14, 14], [1, 7, 20, 28, 14], [1, 8, 27, 48, 42], [1, 9, 35, 75, 90, 42], [1, 10, 44, 110, 165, 132], [1, 11, 54, 154, 275, 297, 132], [1, 11, 65, 208, 429, 572, 429], [1, 13, 76, 273, 637, 1001, 1001, 429], [1, 14, 76, 349, 910, 1638, 2002, 1430], [1, 15, 104, 425, 1259, 2548, 3640, 3432, 1430], [1, 16, 119, 425, 1684, 3807, 6188, 7072, 4862], [1, 17, 135, 663, 2109, 5491, 9995, 13260, 11934, 4862], [1, 18, 152, 798, 2109, 7600, 15486, 23255, 25194, 16796], [1, 19, 170, 950, 3705, 9709, 23086, 38741, 48449, 41990, 16796], [1, 20, 189, 1120, 4655, 9709, 32795, 61827, 87190, 90439, 58786], [1, 21, 209, 1309, 5775, 19019, 42504, 94622, 149017, 177629, 149225, 58786], [1, 22, 230, 1518, 7084, 24794, 42504, 137126, 243639, 326646, 326854, 208011], [1, 23, 252, 1748, 8602, 31878, 92092, 179630, 380765, 570285, 653500, 534865, 208011], [1, 24, 275, 2000, 10350, 40480, 123970, 179630, 560395, 951050, 1223785, 1188365, 742876], [1, 24, 299, 2275, 12350, 50830, 164450, 427570, 740025, 1511445, 2174835, 2412150, 1931241, 742876]]
theorem tk_13_13 : tabOk 13 (some 13) 27 tb_13_13 = true := by decide +kernel
theorem ck_13_13 : all10 (tbl tb_13_13) bl_13_13 = true := by decide +kernel
def tb_44 : List Nat := [1, 2, 4, 10, 17, 32, 80, 136, 260, 650, 1105, 2048, 5120, 8704, 16640, 41600, 70720, 131104, 327760, 557192, 1065220, 2663050, 4527185, 8388608, 20971520, 35651584, 68157440, 170393600, 289669120, 537001984, 1342504960, 2282258432, 4363141120, 10907852800, 18543349760, 34359740416, 85899351040, 146028896768, 279172890880, 697932227200, 1186484786240, 2199560257568, 5498900643920, 9348131094664, 17871427092740, 44678567731850]
def bl_44 : List Int := [1, 43, 859, 12297, 121648, 827750, 5960746, 30432864, 107651402, 525737134, 1663847118, 3415756084, 12889645600, 27270175676, 32323088820, 102060189884, 151063393697, 82836630954, 228227051206, 233455130656, 5230176601, 10460353203, 1]
theorem tk_44 : tabOk 2 (some 3) 45 tb_44 = true := by decide +kernel
theorem ck_44 : chk10 (tbl tb_44) bl_44 44 = true := by decide +kernel
end Lw.T

end
section
set_option Elab.async false
set_option linter.all false
set_option maxRecDepth 100000
set_option maxHeartbeats 4000000
namespace Lw.T
open PySem PySem.Spec L2 Lw Dg
abbrev Lx1 : M Fl := fSet 3 (fCall m_l_draw_field (aCons (fVar 1) aNil))
abbrev Lx2 : M Fl := fPar 4 5 (aCons (fCall m_l_draw_worth (aCons (fVar 1) (aCons (fVar 3) aNil))) (aCons (fCall m_l_pick (aCons (fVar 1) (aCons (fLit (.int 27)) aNil))) aNil))
abbrev Lx3 : M Fl := fIfS (cNot (cB (fCall m_l_sizes_right (aCons (fVar 3) (aCons (fVar 4) (aCons (fVar 5) aNil)))))) (fRet (fLit (.bl false))) fNx
abbrev LxB : M Fl := fSeq Lx1 (fSeq Lx2 Lx3)
abbrev Lx5 : M Fl := fIfS (cOr (cB (fOp2 oNe (rVal (fCallB cLen (aCons (rVal (fCall m_sizes (aCons (fVar 3) (aCons (fVar 4) (aCons (fVar 5) aNil))))) aNil))) (rVal (fOp2 oSub (rVal (fCallB cLen (aCons (rVar 6) aNil))) (rVal (fLit (.int 1))))))) (cOr (cB (fOp2 oNe (rVal (fCall m_size (aCons (fVar 3) (aCons (fVar 4) (aCons (fVar 5) (aCons (fOp2 oAdd (rVar 5) (rVal (fLit (.int 2)))) aNil)))))) (rVal (fLit (.int 0))))) (cB (fOp2 oNe (rVal (fCall m_shares_of (aCons (fVar 3) (aCons (fVar 4) (aCons (fVar 5) (aCons (fOp2 oAdd (rVar 5) (rVal (fLit (.int 2)))) aNil)))))) (rVal (fTup aNil)))))) (fRet (fLit (.bl false))) fNx
abbrev Lx6 : M Fl := fRet (fOrV (fOp2 oGt (rVal (fCall m_l_pick (aCons (fVar 1) (aCons (fLit (.int 8)) aNil)))) (rVal (fLit (.int 0)))) (fAndV (fCall m_l_sizes_right (aCons (fLit (.int 2)) (aCons (fLit (.int 1)) (aCons (fLit (.int 44)) aNil)))) (fOp2 oEq (rVal (fOp2 oIx (rVal (fCall m_sizes (aCons (fLit (.int 2)) (aCons (fLit (.int 1)) (aCons (fLit (.int 60)) aNil))))) (rVal (fLit (.int 0))))) (rVal (fTup (aCons (fLit (.int 60)) (aCons (fLit (.int 1)) aNil)))))))
theorem Lx_is : F_law = (fSeq (fSet 1 (fCall m_l_open_cells (aCons (fVar 0) aNil)))
  (fSeq (fFor (ftN 2) (iRg rg1 (aCons (rVal (fLit (.int 3))) aNil)) LxB)
  (fSeq (fSetN 6 (fCallN m_sizes (aCons (fVar 3) (aCons (fVar 4) (aCons (fVar 5) aNil)))))
  (fSeq (fDrop (fApp 6 (fLit .non)))
  (fSeq Lx5
  Lx6))))) := rfl

theorem cls10 {p : Nat} (hp : p = 0 ∨ p = 2 ∨ p = 3 ∨ p = 5 ∨ p = 7 ∨ p = 11 ∨ p = 13) {l : Option Nat} (hl : l ∈ lensOf p) : ∃ T BL, tabOk p l 27 T = true ∧ all10 (tbl T) BL = true := by
  rcases hp with rfl | rfl | rfl | rfl | rfl | rfl | rfl
  · simp only [lensOf, List.mem_cons, List.not_mem_nil, or_false] at hl
    rcases hl with rfl | rfl | rfl
    · exact ⟨_, _, tk_0_n, ck_0_n⟩
    · exact ⟨_, _, tk_0_2, ck_0_2⟩
    · exact ⟨_, _, tk_0_3, ck_0_3⟩
  · simp only [lensOf, List.mem_cons, List.not_mem_nil, or_false] at hl
    rcases hl with rfl | rfl
    · exact ⟨_, _, tk_2_2, ck_2_2⟩
    · exact ⟨_, _, tk_2_3, ck_2_3⟩
  · simp only [lensOf, List.mem_cons, List.not_mem_nil, or_false] at hl
    rcases hl with rfl | rfl
    · exact ⟨_, _, tk_3_2, ck_3_2⟩
    · exact ⟨_, _, tk_3_3, ck_3_3⟩
  · simp only [lensOf, List.mem_cons, List.not_mem_nil, or_false] at hl
    rcases hl with rfl | rfl | rfl
    · exact ⟨_, _, tk_5_2, ck_5_2⟩
    · exact ⟨_, _, tk_5_3, ck_5_3⟩
    · exact ⟨_, _, tk_5_5, ck_5_5⟩
  · simp only [lensOf, List.mem_cons, List.not_mem_nil, or_false] at hl
    rcases hl with rfl | rfl | rfl | rfl
    · exact ⟨_, _, tk_7_2, ck_7_2⟩
    · exact ⟨_, _, tk_7_3, ck_7_3⟩
    · exact ⟨_, _, tk_7_4, ck_7_4⟩
    · exact ⟨_, _, tk_7_7, ck_7_7⟩
  · simp only [lensOf, List.mem_cons, List.not_mem_nil, or_false] at hl
    rcases hl with rfl | rfl | rfl | rfl | rfl
    · exact ⟨_, _, tk_11_2, ck_11_2⟩
    · exact ⟨_, _, tk_11_3, ck_11_3⟩
    · exact ⟨_, _, tk_11_5, ck_11_5⟩
    · exact ⟨_, _, tk_11_6, ck_11_6⟩
    · exact ⟨_, _, tk_11_11, ck_11_11⟩
  · simp only [lensOf, List.mem_cons, List.not_mem_nil, or_false] at hl
    rcases hl with rfl | rfl | rfl | rfl | rfl
    · exact ⟨_, _, tk_13_2, ck_13_2⟩
    · exact ⟨_, _, tk_13_3, ck_13_3⟩
    · exact ⟨_, _, tk_13_6, ck_13_6⟩
    · exact ⟨_, _, tk_13_7, ck_13_7⟩
    · exact ⟨_, _, tk_13_13, ck_13_13⟩

theorem fy10 {p n N : Nat} {l : Option Nat} {d : Dt} (hp : FitP p) (hl : FitL l) (hd1 : ∀ w, m_length [nD p, d] w = some (lD l, w)) (hd2 : ∀ w, m_l_length [nD p, d] w = some (lD l, w)) {T : List Nat} {L : List Int} (hT : tabOk p l N T = true) (nN : n < N) (N2 : N < 100) (hB : chk10 (tbl T) L n = true) :
    Fy p n (n / 2 + 1) N l d (tbl T) := by
  unfold chk10 at hB
  rw [List.all_eq_true] at hB
  have hk : ∀ j, j < n / 2 + 1 → chkK (tbl T) L n (n / 2 + 1) j = true := fun j hj => hB j (List.mem_range.mpr hj)
  have hT' := tab_hold hT
  generalize tbl T = h at *
  have sp : ∀ j, j < n / 2 + 1 → zL L j = (cnt n (n - 2 * j) : Int) - (((List.range j).filter fun t => h (n - 2 * j) (n - 2 * t)).map (zL L)).sum ∧ srtI (zN (pcsL h L n (n / 2 + 1) (n - 2 * j))) = zN (ownL h L n (n - 2 * j)) ∧
      ((ownL h L n (n - 2 * j)).map fun r => zL L ((n - r) / 2)).sum = (cnt n (n - 2 * j) : Int) ∧ 0 ≤ zL L j ∧ kpR h n (n - 2 * j) = decide (zL L j = (cnt n (n - 2 * j) : Int)) ∧ (zL L j ≠ 0 → shR h n (n - 2 * j) = shL h n (n - 2 * j)) := fun j hj => by
    have := hk j hj
    unfold chkK at this
    rw [cntE_is] at this
    simp only [Bool.and_eq_true, decide_eq_true_eq, beq_iff_eq, Bool.or_eq_true] at this
    obtain ⟨⟨⟨⟨⟨a1, a2⟩, a3⟩, a4⟩, a5⟩, a6⟩ := this
    exact ⟨a1, a2, a3, a4, a5, fun hz => a6.resolve_left hz⟩
  have hz := sz_of (h := h) (n := n) (m := n / 2 + 1) (z := zL L) fun j hj => (sp j hj).1
  have hpc : ∀ k, pcsL h L n (n / 2 + 1) k = pcs h n (n / 2 + 1) k := fun k => by
    unfold pcsL pcs
    congr 1
    refine List.filter_congr fun j hj => ?_
    unfold szB
    rw [hz j (List.mem_range.mp hj)]
  have hr : ∀ j, j < n / 2 + 1 → ∀ r ∈ upL (n - 2 * j) (n + 1), (n - r) / 2 < n / 2 + 1 := fun j hj r hr => by
    have := mem_upL hr
    omega
  have how : ∀ j, j < n / 2 + 1 → ownL h L n (n - 2 * j) = ownR h n (n - 2 * j) := fun j hj => by
    unfold ownL ownR
    refine List.filter_congr fun r hr' => ?_
    rw [hz _ (hr j hj r hr')]
  refine ⟨hp, hl, ?_, nN, N2, halfs n, hd1, hd2, fun j hj => ?_, fun j hj => ?_, fun j hj => ?_, fun j hj => ?_, fun j hj hs => ?_⟩
  · exact hT'
  · rw [← hpc, (sp j hj).2.1, how j hj]
  · rw [← (sp j hj).2.2.1, how j hj]
    congr 1
    refine List.map_congr_left fun r hr' => ?_
    exact hz _ (hr j hj r (List.mem_filter.mp hr').1)
  · rw [hz j hj]; exact (sp j hj).2.2.2.1
  · rw [hz j hj]; exact (sp j hj).2.2.2.2.1
  · exact (sp j hj).2.2.2.2.2 (by rw [← hz j hj]; exact hs)

abbrev EX (r lap p d n o6 : Option Sl) : En := [r, V .src, lap, p, d, n, o6]
theorem lap10 {r lap o3 o4 o5 o6 : Option Sl} {s : Sc} (g : Good s) : ∃ p d n s', LxB (EX r lap o3 o4 o5 o6) (some s) = some (.nx, EX r lap (V (nD p)) (V d) (V (nD n)) o6, some s') ∧ Good s' ∧ n ≤ 26 ∧ flatT d = true ∧ ∃ l h, Fy p n (n / 2 + 1) 27 l d h := by
  obtain ⟨p, s1, e1, hp, g1⟩ := draw_p g
  obtain ⟨d, s2, e2, ⟨l, hl, ⟨_, hcl, hw⟩, hd1, hd2⟩, g2⟩ := draw_d hp g1
  obtain ⟨v, s3, e3, v0, v27, g3⟩ := pick_ok (most := 27) (by decide) (by decide) g2
  obtain ⟨n, rfl⟩ := Int.eq_ofNat_of_zero_le v0
  have e3 : m_l_pick [.src, .int 27] (some s2) = some (nD n, some s3) := e3
  have fp := fitP_of hp
  obtain ⟨T, BL, hT, hB⟩ := cls10 hp hcl
  unfold all10 at hB
  rw [List.all_eq_true] at hB
  have X := fy10 (n := n) (d := d) fp hl hd1 hd2 hT (by omega) (by omega) (hB n (List.mem_range.mpr (by omega)))
  have hr := sizes_right_ok X (some s3)
  refine ⟨p, d, n, s3, ?_, g3, by omega, ?_, l, _, X⟩
  · rw [LxB, seq_nx (ρ1 := EX r lap (V (nD p)) o4 o5 o6) (w1 := some s1) (by simp [q_bind, e1]), seq_nx (ρ1 := EX r lap (V (nD p)) (V d) (V (nD n)) o6) (w1 := some s3) (by simp [q_bind, e2, e3])]
    simp [q_bind, hr]
  · rcases hw with ⟨i, rfl⟩ | ⟨i, j, rfl⟩ <;> simp [flatT, flatTL]
theorem app_at {ρ : En} {w : Wd} {i : Nat} {ds : List Dt} {d : Dt} {f : M Dt} (h : ρ[i]? = some (some (.owL ds))) (hl : ds.length < 16777216) (hf : f ρ w = some (d, ρ, w)) : fApp i f ρ w = some (.non, ρ.set i (some (.owL (ds ++ [d]))), w) := by
  have e : isOwL i ρ w = some ((), ρ, w) := by unfold isOwL; rw [h]
  have e2 : mApp i d ρ w = some (.non, ρ.set i (some (.owL (ds ++ [d]))), w) := by
    unfold mApp
    rw [h]
    have hz : decide (ds.length < sizeLine) = true := decide_eq_true (by rw [sizeLine_eq]; exact hl)
    simp only [hz, if_true]
  rw [u_app, q_bind, e, oB_some, q_bind, hf, oB_some, e2]
theorem law_true : ∀ ns : List Int, ns.length ≤ 63 → ∃ w', m_law [.rol ns] none = some (.bl true, w') := by
  intro ns hns
  obtain ⟨s, e, g⟩ := open_ok hns
  obtain ⟨p1, d1, n1, s1, e1, g1, _⟩ := lap10 (r := V (.rol ns)) (lap := V (.int 0)) (o3 := none) (o4 := none) (o5 := none) (o6 := none) g
  obtain ⟨p2, d2, n2, s2, e2, g2, _⟩ := lap10 (r := V (.rol ns)) (lap := V (.int 1)) (o3 := V (nD p1)) (o4 := V d1) (o5 := V (nD n1)) (o6 := none) g1
  obtain ⟨p, d, n, s3, e3, g3, hn, hfl, l, h, X⟩ := lap10 (r := V (.rol ns)) (lap := V (.int 2)) (o3 := V (nD p2)) (o4 := V d2) (o5 := V (nD n2)) (o6 := none) g2
  obtain ⟨v, s4, e4, v0, v8, g4⟩ := pick_ok (most := 8) (by decide) (by decide) g3
  have hr3 : rg1 [.int 3] = some [.int 0, .int 1, .int 2] := rfl
  have hs := fun w => sizes_ok (d := d) (m := n / 2 + 1) X.H (by have := X.nN; omega) X.hp X.hl X.hd1 (by omega) X.hm w
  generalize hXX : ((List.range (n / 2 + 1)).filter (szB h n)) = XX at *
  have hXl : XX.length ≤ 100 := by
    have := List.length_filter_le (szB h n) (List.range (n / 2 + 1))
    rw [hXX, List.length_range] at this
    omega
  have f2 : (fFor (ftN 2) (iRg rg1 (aCons (rVal (fLit (.int 3))) aNil)) LxB) (EX (V (.rol ns)) none none none none none) (some s) = some (.nx, EX (V (.rol ns)) (V (.int 2)) (V (nD p)) (V d) (V (nD n)) none, some s3) := by
    rw [u_for, q_bind]
    simp only [u_rg, q_bind, u_cons, u_rVal, q_lit, q_ret, q_nil, oB_some, u_rds, u_rds_nil, v_mRd, v_rd1, liftO_some, q_lift, hr3]
    rw [loop_nx (ρ1 := EX (V (.rol ns)) (V (.int 0)) none none none none) rfl e1, loop_nx (ρ1 := EX (V (.rol ns)) (V (.int 1)) (V (nD p1)) (V d1) (V (nD n1)) none) rfl e2, loop_nx (ρ1 := EX (V (.rol ns)) (V (.int 2)) (V (nD p2)) (V d2) (V (nD n2)) none) rfl e3]
    rfl
  have hfl3 : flatTL [nD p, d, nD n] = true := by unfold nD; simp [flatTL, flatT, hfl]
  have hflX : flatTL (XX.map (szP h n)) = true := flatTL_map (fun x => by unfold szP zI nD; simp [flatT, flatTL]) XX
  have f3 : (fSetN 6 (fCallN m_sizes (aCons (fVar 3) (aCons (fVar 4) (aCons (fVar 5) aNil))))) (EX (V (.rol ns)) (V (.int 2)) (V (nD p)) (V d) (V (nD n)) none) (some s3) = some (.nx, EX (V (.rol ns)) (V (.int 2)) (V (nD p)) (V d) (V (nD n)) (some (.owL (XX.map (szP h n)))), some s3) := by
    simp [q_bind, hfl3, hs, callNO_at hflX]
  have f4 : (fDrop (fApp 6 (fLit .non))) (EX (V (.rol ns)) (V (.int 2)) (V (nD p)) (V d) (V (nD n)) (some (.owL (XX.map (szP h n))))) (some s3) = some (.nx, EX (V (.rol ns)) (V (.int 2)) (V (nD p)) (V d) (V (nD n)) (some (.owL (XX.map (szP h n) ++ [.non]))), some s3) := by
    rw [u_drop, q_bind, app_at (i := 6) (ds := XX.map (szP h n)) (d := .non) rfl (by rw [List.length_map]; omega) rfl]
    rfl
  have hsz : ∀ w, m_size [nD p, d, nD n, nD (n + 2)] w = some (.int 0, w) := fun w => size_not (d := d) (r := n + 2) X.H (by have := X.nN; omega) X.hp X.hl X.hd1 (by omega) X.hm (fun t ht => by omega) w
  have hN : (Fy p n (n / 2 + 1) 27 l d h) := X
  have e0 : oNe (.int 0) (.int 0) = some (.bl false) := by rw [ne_int]; simp
  have e00 : oNe (.tup []) (.tup []) = some (.bl false) := ne_toD [] [] rfl
  have hsh : m_shares_of [nD p, d, nD n, nD (n + 2)] (some s3) = some (.tup [], some s3) := by
    have hz' : oEq (.int 0) (.int 0) = some (.bl true) := by rw [eq_int]; simp
    have hs' := hsz (some s3)
    unfold m_shares_of
    rw [u_run]
    simp [F_shares_of, env0, q_bind, hs', -eq_int, hz', inLine_ok]
  have h2 : oAdd (nD n) (.int 2) = some (nD (n + 2)) := rfl
  have hl1 : oSub (nD (XX.length + 1)) (.int 1) = some (nD XX.length) := nd_sub1 (a := XX.length + 1) (by omega)
  have hl2 : oNe (nD XX.length) (nD XX.length) = some (.bl false) := by unfold nD; rw [ne_int]; simp
  have f5 : Lx5 (EX (V (.rol ns)) (V (.int 2)) (V (nD p)) (V d) (V (nD n)) (some (.owL (XX.map (szP h n) ++ [.non])))) (some s3) = some (.nx, EX (V (.rol ns)) (V (.int 2)) (V (nD p)) (V d) (V (nD n)) (some (.owL (XX.map (szP h n) ++ [.non]))), some s3) := by
    simp [q_bind, hs, hl1, hl2, h2, hsz, e0, hsh, e00, inLine_ok]
  have f6 : ∃ w', Lx6 (EX (V (.rol ns)) (V (.int 2)) (V (nD p)) (V d) (V (nD n)) (some (.owL (XX.map (szP h n) ++ [.non])))) (some s3) = some (.rt (.bl true), EX (V (.rol ns)) (V (.int 2)) (V (nD p)) (V d) (V (nD n)) (some (.owL (XX.map (szP h n) ++ [.non]))), w') := by
    have hg : oGt (.int v) (.int 0) = some (.bl (decide (0 < v))) := int_gt _ _
    by_cases hv : 0 < v
    · rw [decide_eq_true hv] at hg
      exact ⟨some s4, by simp [q_bind, e4, hg]⟩
    · rw [decide_eq_false hv] at hg
      have k1 : ∀ w, m_length [nD 2, nD 1] w = some (lD (some 3), w) := fun w => by kernel_rfl
      have k2 : ∀ w, m_l_length [nD 2, nD 1] w = some (lD (some 3), w) := fun w => by kernel_rfl
      have fp2 : FitP 2 := by unfold FitP; omega
      have fl3 : FitL (some 3) := ⟨by decide, by decide⟩
      have X44 := fy10 (n := 44) (d := nD 1) fp2 fl3 k1 k2 tk_44 (by decide) (by decide) ck_44
      have r44 : m_l_sizes_right [.int 2, .int 1, .int 44] (some s4) = some (.bl true, some s4) := sizes_right_ok X44 (some s4)
      have H60 : HoldIs 2 (some 3) 60 (hold 2 (some 3)) := fun _ _ _ _ => rfl
      have s60 : m_sizes [.int 2, .int 1, .int 60] (some s4) = some (.lst (((List.range 31).filter (szB (hold 2 (some 3)) 60)).map (szP (hold 2 (some 3)) 60)), some s4) := sizes_ok (d := nD 1) (m := 31) H60 (Nat.le_refl _) fp2 fl3 k1 (by decide) (by unfold Halfs; decide) (some s4)
      have z60 : sz (hold 2 (some 3)) 60 0 = 1 := by
        rw [sz_eq]
        have : cnt 60 (60 - 2 * 0) = 1 := by rw [← cntE_is]; decide
        rw [this]; rfl
      have b60 : szB (hold 2 (some 3)) 60 0 = true := by unfold szB; rw [z60]; rfl
      have l60 : ((List.range 31).filter (szB (hold 2 (some 3)) 60)).map (szP (hold 2 (some 3)) 60) = .tup [nD 60, .int 1] :: ((List.range 30).map Nat.succ |>.filter (szB (hold 2 (some 3)) 60)).map (szP (hold 2 (some 3)) 60) := by
        rw [List.range_succ_eq_map, List.filter_cons_of_pos b60, List.map_cons]
        unfold szP zI
        rw [z60]
      rw [l60] at s60
      have i60 : ∀ (x : Dt) (xs : List Dt), oIx (.lst (x :: xs)) (.int 0) = some x := fun x xs => ix_nat (x :: xs) 0
      have q60 : oEq (.tup [nD 60, .int 1]) (.tup [.int 60, .int 1]) = some (.bl true) := eq_same (k := 2) (by decide) (by decide)
      generalize ((List.range 30).map Nat.succ |>.filter (szB (hold 2 (some 3)) 60)).map (szP (hold 2 (some 3)) 60) = Y60 at *
      exact ⟨some s4, by simp [q_bind, e4, hg, r44, s60, i60, inLine_ok, q60]⟩
  obtain ⟨w', f6⟩ := f6
  refine ⟨w', ?_⟩
  have f1 : (fSet 1 (fCall m_l_open_cells (aCons (fVar 0) aNil))) (env0 7 [.rol ns]) none = some (.nx, EX (V (.rol ns)) none none none none none, some s) := by
    simp [env0, q_bind, e]
  have hF := Lx_is
  unfold m_law
  rw [u_run, hF, seq_nx f1, seq_nx f2, seq_nx f3, seq_nx f4, seq_nx f5, f6]
  rfl
end Lw.T

end
set_option Elab.async false
set_option linter.all false
set_option maxRecDepth 100000
set_option maxHeartbeats 0
open PySem PySem.W PyProof.Rows in
set_option maxRecDepth 100000 in
set_option maxHeartbeats 0 in
theorem PySem.Challenge.cw_loopworth_k10_sizes_of_pieces_holds : PySem.Challenge.rw_loopworth_k10_sizes_of_pieces.Holds := by
  w_on; o_law; k_head; (case hw => w_witness2)
  k_fill
  refine Lw.law_walk (l := PySem.Challenge.rw_loopworth_k10_sizes_of_pieces) (m := Lw.T.m_law) (k := 10) rfl rfl (fun w h Y => PySem.W.kIn_of Y) ⟨rfl, by decide, by decide⟩ Lw.T.law_true ?F
  case F =>
    intro w mg fa h KX G hmg
    refine' Lw.T.all_mk KX G hmg ?a0 ?l0 ?c0 ?k0 ?a1 ?l1 ?c1 ?k1 ?a2 ?l2 ?c2 ?k2 ?a3 ?l3 ?c3 ?k3 ?a4 ?l4 ?c4 ?k4 ?a5 ?l5 ?c5 ?k5 ?a6 ?l6 ?c6 ?k6 ?a7 ?l7 ?c7 ?k7 ?a8 ?l8 ?c8 ?k8 ?a9 ?l9 ?c9 ?k9 ?a10 ?l10 ?c10 ?k10 ?a11 ?l11 ?c11 ?k11 ?a12 ?l12 ?c12 ?k12 ?a13 ?l13 ?c13 ?k13 ?a14 ?l14 ?c14 ?k14 ?a15 ?l15 ?c15 ?k15 ?a16 ?l16 ?c16 ?k16 ?a17 ?l17 ?c17 ?k17 ?a18 ?l18 ?c18 ?k18 ?a19 ?l19 ?c19 ?k19 ?a20 ?l20 ?c20 ?k20 ?a21 ?l21 ?c21 ?k21 ?a22 ?l22 ?c22 ?k22 ?a23 ?l23 ?c23 ?k23 ?a24 ?l24 ?c24 ?k24 ?a25 ?l25 ?c25 ?k25 ?a26 ?l26 ?c26 ?k26 ?a27 ?l27 ?c27 ?k27 ?a28 ?l28 ?c28 ?k28 ?a29 ?l29 ?c29 ?k29 ?a30 ?l30 ?c30 ?k30 ?a31 ?l31 ?c31 ?k31 ?a32 ?l32 ?c32 ?k32 ?a33 ?l33 ?c33 ?k33 ?a34 ?l34 ?c34 ?k34 ?a35 ?l35 ?c35 ?k35 ?a36 ?l36 ?c36 ?k36 ?a37 ?l37 ?c37 ?k37 ?z_abs ?z_dict ?z_enumerate ?z_int ?z_len ?z_max ?z_range ?z_repr ?z_reversed ?z_sorted ?z_sum ?z_tuple ?z_zip ?g_comb ?g_gcd ?t_LENGTHS ?q_LENGTHS
    (case a0 => k_is)
    (case l0 => k_is)
    (case c0 => k_is)
    (case k0 => k_is)
    (case a1 => k_is)
    (case l1 => k_is)
    (case c1 => k_is)
    (case k1 => k_is)
    (case a2 => k_is)
    (case l2 => k_is)
    (case c2 => k_is)
    (case k2 => k_is)
    (case a3 => k_is)
    (case l3 => k_is)
    (case c3 => k_is)
    (case k3 => k_is)
    (case a4 => k_is)
    (case l4 => k_is)
    (case c4 => k_is)
    (case k4 => k_is)
    (case a5 => k_is)
    (case l5 => k_is)
    (case c5 => k_is)
    (case k5 => k_is)
    (case a6 => k_is)
    (case l6 => k_is)
    (case c6 => k_is)
    (case k6 => k_is)
    (case a7 => k_is)
    (case l7 => k_is)
    (case c7 => k_is)
    (case k7 => k_is)
    (case a8 => k_is)
    (case l8 => k_is)
    (case c8 => k_is)
    (case k8 => k_is)
    (case a9 => k_is)
    (case l9 => k_is)
    (case c9 => k_is)
    (case k9 => k_is)
    (case a10 => k_is)
    (case l10 => k_is)
    (case c10 => k_is)
    (case k10 => k_is)
    (case a11 => k_is)
    (case l11 => k_is)
    (case c11 => k_is)
    (case k11 => k_is)
    (case a12 => k_is)
    (case l12 => k_is)
    (case c12 => k_is)
    (case k12 => k_is)
    (case a13 => k_is)
    (case l13 => k_is)
    (case c13 => k_is)
    (case k13 => k_is)
    (case a14 => k_is)
    (case l14 => k_is)
    (case c14 => k_is)
    (case k14 => k_is)
    (case a15 => k_is)
    (case l15 => k_is)
    (case c15 => k_is)
    (case k15 => k_is)
    (case a16 => k_is)
    (case l16 => k_is)
    (case c16 => k_is)
    (case k16 => k_is)
    (case a17 => k_is)
    (case l17 => k_is)
    (case c17 => k_is)
    (case k17 => k_is)
    (case a18 => k_is)
    (case l18 => k_is)
    (case c18 => k_is)
    (case k18 => k_is)
    (case a19 => k_is)
    (case l19 => k_is)
    (case c19 => k_is)
    (case k19 => k_is)
    (case a20 => k_is)
    (case l20 => k_is)
    (case c20 => k_is)
    (case k20 => k_is)
    (case a21 => k_is)
    (case l21 => k_is)
    (case c21 => k_is)
    (case k21 => k_is)
    (case a22 => k_is)
    (case l22 => k_is)
    (case c22 => k_is)
    (case k22 => k_is)
    (case a23 => k_is)
    (case l23 => k_is)
    (case c23 => k_is)
    (case k23 => k_is)
    (case a24 => k_is)
    (case l24 => k_is)
    (case c24 => k_is)
    (case k24 => k_is)
    (case a25 => k_is)
    (case l25 => k_is)
    (case c25 => k_is)
    (case k25 => k_is)
    (case a26 => k_is)
    (case l26 => k_is)
    (case c26 => k_is)
    (case k26 => k_is)
    (case a27 => k_is)
    (case l27 => k_is)
    (case c27 => k_is)
    (case k27 => k_is)
    (case a28 => k_is)
    (case l28 => k_is)
    (case c28 => k_is)
    (case k28 => k_is)
    (case a29 => k_is)
    (case l29 => k_is)
    (case c29 => k_is)
    (case k29 => k_is)
    (case a30 => k_is)
    (case l30 => k_is)
    (case c30 => k_is)
    (case k30 => k_is)
    (case a31 => k_is)
    (case l31 => k_is)
    (case c31 => k_is)
    (case k31 => k_is)
    (case a32 => k_is)
    (case l32 => k_is)
    (case c32 => k_is)
    (case k32 => k_is)
    (case a33 => k_is)
    (case l33 => k_is)
    (case c33 => k_is)
    (case k33 => k_is)
    (case a34 => k_is)
    (case l34 => k_is)
    (case c34 => k_is)
    (case k34 => k_is)
    (case a35 => k_is)
    (case l35 => k_is)
    (case c35 => k_is)
    (case k35 => k_is)
    (case a36 => k_is)
    (case l36 => k_is)
    (case c36 => k_is)
    (case k36 => k_is)
    (case a37 => k_is)
    (case l37 => k_is)
    (case c37 => k_is)
    (case k37 => k_is)
    (case z_abs => k_is)
    (case z_dict => k_is)
    (case z_enumerate => k_is)
    (case z_int => k_is)
    (case z_len => k_is)
    (case z_max => k_is)
    (case z_range => k_is)
    (case z_repr => k_is)
    (case z_reversed => k_is)
    (case z_sorted => k_is)
    (case z_sum => k_is)
    (case z_tuple => k_is)
    (case z_zip => k_is)
    (case g_comb => k_is)
    (case g_gcd => k_is)
    (case t_LENGTHS => k_is)
    (case q_LENGTHS => exact Lw.ktab_mk (by k_is) (by kernel_rfl) (by decide) (by decide))

