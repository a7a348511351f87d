import PyProof.Rows.All
import Wide.All
import OpenK.AllK
import Wide.FinOn
import HandS.ForMost
import HandS.ExcInit
import HandS.Exc
import HandS.Wide
import HandS.WideBits
import HandS.Deep
import HandS.ExcOwn
import HandS.ExcValue
import HandS.ExcField
import HandS.ExcIs
import HandS.IsInst
import HandS.Comp
import KE.KExcInit
import HandS.Codes
import HandS.Defaults
import KE.KExcIs
import HandS.HeadEnd
import HandS.EndBits
import HandS.Words
import HandS.HeadHook2
import HandS.Head2
import PyProof.ReprLen
import PyProof.P3Eq
import PyProof.Rows.StrJoinMade
import PySem.Challenge.RW_mixedanswers_k96_errors_made
set_option Elab.async false
set_option linter.all false
section
set_option maxRecDepth 100000
set_option maxHeartbeats 2000000
/-! Mx1: values of the small evaluator, its store, and how they stand in the abstract heap. -/
namespace Mx
open PySem L2

/-- data: plain values, frozen tuples, lists and dicts; obj n: the n-th object of the store; loc i: the own object of the i-th name -/
inductive D where
  | non | bl (b : Bool) | int (i : Int) | str (s : Str) | ty (n : String)
  | tup (xs : List D) | lst (xs : List D) | frl (xs : List D) | dic (kvs : List (Key × D))
  | obj (n : Nat) | loc (i : Nat)

/-- objects that may change -/
inductive O where
  | lst (xs : List D) | dic (kvs : List (Key × D)) | dit (kvs : List (List Key × D))
  | ins (c : Nat) (fs : List (Str × D)) | exc (c : Nat) (fs : List (Str × D))

abbrev Sto := List (Option O)
abbrev Fm := Nat → Option Addr

section
variable (K : PySem.W.Frag) (f : Fm) (B : Hp)
mutual
def Rp : D → V → Prop
  | .non, v => v = .non
  | .bl b, v => v = .bl b
  | .int i, v => v = .int i
  | .str s, v => v = .str s
  | .ty n, v => v = .ty n
  | .tup ds, v => ∃ a vs, v = .ref a ∧ SqT K B a vs ∧ RpA ds vs
  | .lst ds, v => ∃ a vs, v = .ref a ∧ B a = some (.lst vs) ∧ RpA ds vs
  | .frl ds, v => ∃ a vs, v = .ref a ∧ SqL K B a vs ∧ RpA ds vs
  | .dic kvs, v => ∃ a ps, v = .ref a ∧ B a = some (.dK ps) ∧ RpK kvs ps
  | .obj n, v => ∃ a, f n = some a ∧ v = .ref a
  | .loc _, _ => False
def RpA : List D → List V → Prop
  | [], vs => vs = []
  | d :: ds, vs => ∃ v r, vs = v :: r ∧ Rp d v ∧ RpA ds r
def RpK : List (Key × D) → List (Key × V) → Prop
  | [], vs => vs = []
  | (k, d) :: ds, vs => ∃ v r, vs = (k, v) :: r ∧ Rp d v ∧ RpK ds r
end
/-- fields; pairs with any keys -/
def RpF {κ : Type} : List (κ × D) → List (κ × V) → Prop
  | [], vs => vs = []
  | (k, d) :: ds, vs => ∃ v r, vs = (k, v) :: r ∧ Rp K f B d v ∧ RpF ds r
end

section
variable {K : PySem.W.Frag} {f f' : Fm} {B B' : Hp}
def Fx (f f' : Fm) : Prop := ∀ n a, f n = some a → f' n = some a
def Hx (H H' : Hp) : Prop := ∀ a o, H a = some o → H' a = some o
theorem Fx.refl (f : Fm) : Fx f f := fun _ _ h => h
theorem Fx.trans {a b c : Fm} (h : Fx a b) (g : Fx b c) : Fx a c := fun n x e => g n x (h n x e)
theorem Hx.refl (H : Hp) : Hx H H := fun _ _ h => h
theorem Hx.trans {a b c : Hp} (h : Hx a b) (g : Hx b c) : Hx a c := fun n x e => g n x (h n x e)
theorem Hx.new {H : Hp} {p : Addr} {o : HO} (h : H p = none) : Hx H (upd H p o) := fun a u e => by
  rw [upd_ne (ne_of_none e h)]
  exact e
theorem Hx.rd {a : Addr} {u : HO} (e : Hx B B') (h : Rd B a u) : Rd B' a u := by
  rcases h with h | ⟨o, h⟩
  · exact .inl (e _ _ h)
  · exact .inr ⟨o, e _ _ h⟩
theorem Hx.sqL {a : Addr} {xs : List V} (e : Hx B B') (h : SqL K B a xs) : SqL K B' a xs := by
  rcases h with h | h
  · exact .inl (e.rd h)
  · exact .inr h
theorem Hx.sqT {a : Addr} {xs : List V} (e : Hx B B') (h : SqT K B a xs) : SqT K B' a xs := by
  rcases h with h | h
  · exact .inl (e.rd h)
  · exact .inr h
mutual
theorem Rp.mono (ef : Fx f f') (eb : Hx B B') : ∀ (d : D) {v : V}, Rp K f B d v → Rp K f' B' d v
  | .non, _, h => h
  | .bl _, _, h => h
  | .int _, _, h => h
  | .str _, _, h => h
  | .ty _, _, h => h
  | .tup ds, _, h => by
    simp only [Rp] at h ⊢
    obtain ⟨a, vs, e, s, r⟩ := h
    exact ⟨a, vs, e, eb.sqT s, RpA.mono ef eb ds r⟩
  | .lst ds, _, h => by
    simp only [Rp] at h ⊢
    obtain ⟨a, vs, e, s, r⟩ := h
    exact ⟨a, vs, e, eb _ _ s, RpA.mono ef eb ds r⟩
  | .frl ds, _, h => by
    simp only [Rp] at h ⊢
    obtain ⟨a, vs, e, s, r⟩ := h
    exact ⟨a, vs, e, eb.sqL s, RpA.mono ef eb ds r⟩
  | .dic kvs, _, h => by
    simp only [Rp] at h ⊢
    obtain ⟨a, vs, e, s, r⟩ := h
    exact ⟨a, vs, e, eb _ _ s, RpK.mono ef eb kvs r⟩
  | .obj n, _, h => by
    simp only [Rp] at h ⊢
    obtain ⟨a, e, q⟩ := h
    exact ⟨a, ef _ _ e, q⟩
  | .loc _, _, h => by simp only [Rp] at h
theorem RpA.mono (ef : Fx f f') (eb : Hx B B') : ∀ (ds : List D) {vs : List V}, RpA K f B ds vs → RpA K f' B' ds vs
  | [], _, h => by simp only [RpA] at h ⊢; exact h
  | d :: ds, _, h => by
    simp only [RpA] at h ⊢
    obtain ⟨v, r, e, h1, h2⟩ := h
    exact ⟨v, r, e, Rp.mono ef eb d h1, RpA.mono ef eb ds h2⟩
theorem RpK.mono (ef : Fx f f') (eb : Hx B B') : ∀ (ds : List (Key × D)) {vs : List (Key × V)}, RpK K f B ds vs → RpK K f' B' ds vs
  | [], _, h => by simp only [RpK] at h ⊢; exact h
  | (k, d) :: ds, _, h => by
    simp only [RpK] at h ⊢
    obtain ⟨v, r, e, h1, h2⟩ := h
    exact ⟨v, r, e, Rp.mono ef eb d h1, RpK.mono ef eb ds h2⟩
end
theorem RpF.mono {κ : Type} (ef : Fx f f') (eb : Hx B B') : ∀ {ds : List (κ × D)} {vs : List (κ × V)}, RpF K f B ds vs → RpF K f' B' ds vs
  | [], _, h => h
  | (k, d) :: ds, _, h => by
    obtain ⟨v, r, e, h1, h2⟩ := h
    exact ⟨v, r, e, h1.mono ef eb, RpF.mono ef eb h2⟩
theorem RpA.len : ∀ {ds : List D} {vs : List V}, RpA K f B ds vs → vs.length = ds.length
  | [], _, h => by simp only [RpA] at h; subst h; rfl
  | d :: ds, _, h => by
    simp only [RpA] at h
    obtain ⟨v, r, rfl, _, h2⟩ := h
    simp only [List.length_cons, h2.len]
theorem RpA.app : ∀ {ds es : List D} {vs ws : List V}, RpA K f B ds vs → RpA K f B es ws → RpA K f B (ds ++ es) (vs ++ ws)
  | [], _, _, _, h, g => by simp only [RpA] at h; subst h; exact g
  | d :: ds, _, _, _, h, g => by
    simp only [RpA] at h
    obtain ⟨v, r, rfl, h1, h2⟩ := h
    simp only [List.cons_append, RpA]
    exact ⟨v, _, rfl, h1, h2.app g⟩
theorem RpA.one {d : D} {v : V} (h : Rp K f B d v) : RpA K f B [d] [v] := by
  simp only [RpA]
  exact ⟨v, [], rfl, h, rfl⟩
theorem RpA.get : ∀ {ds : List D} {vs : List V} {i : Nat} {d : D}, RpA K f B ds vs → ds[i]? = some d → ∃ v, vs[i]? = some v ∧ Rp K f B d v
  | [], _, _, _, _, e => by simp at e
  | d :: ds, _, 0, _, h, e => by
    simp only [RpA] at h
    obtain ⟨v, r, rfl, h1, _⟩ := h
    simp at e
    subst e
    exact ⟨v, by simp, h1⟩
  | d :: ds, _, i + 1, _, h, e => by
    simp only [RpA] at h
    obtain ⟨v, r, rfl, _, h2⟩ := h
    simp at e
    obtain ⟨v', e', r'⟩ := h2.get e
    exact ⟨v', by simpa using e', r'⟩
theorem RpA.getV : ∀ {ds : List D} {vs : List V} {i : Nat} {v : V}, RpA K f B ds vs → vs[i]? = some v → ∃ d, ds[i]? = some d ∧ Rp K f B d v
  | [], _, _, _, h, e => by simp only [RpA] at h; subst h; simp at e
  | d :: ds, _, 0, _, h, e => by
    simp only [RpA] at h
    obtain ⟨v, r, rfl, h1, _⟩ := h
    simp at e
    subst e
    exact ⟨d, by simp, h1⟩
  | d :: ds, _, i + 1, _, h, e => by
    simp only [RpA] at h
    obtain ⟨v, r, rfl, _, h2⟩ := h
    simp at e
    obtain ⟨v', e', r'⟩ := h2.getV e
    exact ⟨v', by simpa using e', r'⟩
theorem RpA.take : ∀ {ds : List D} {vs : List V} (n : Nat), RpA K f B ds vs → RpA K f B (ds.take n) (vs.take n)
  | _, _, 0, _ => by simp [RpA]
  | [], _, n + 1, h => by simp only [RpA] at h; subst h; simp [RpA]
  | d :: ds, _, n + 1, h => by
    simp only [RpA] at h
    obtain ⟨v, r, rfl, h1, h2⟩ := h
    simp only [List.take_succ_cons, RpA]
    exact ⟨v, _, rfl, h1, h2.take n⟩
theorem RpA.drop : ∀ {ds : List D} {vs : List V} (n : Nat), RpA K f B ds vs → RpA K f B (ds.drop n) (vs.drop n)
  | _, _, 0, h => by simpa using h
  | [], _, n + 1, h => by simp only [RpA] at h; subst h; simp [RpA]
  | d :: ds, _, n + 1, h => by
    simp only [RpA] at h
    obtain ⟨v, r, rfl, h1, h2⟩ := h
    simp only [List.drop_succ_cons]
    exact h2.drop n
theorem RpA.set : ∀ {ds : List D} {vs : List V} {d : D} {v : V} (i : Nat), RpA K f B ds vs → Rp K f B d v → RpA K f B (ds.set i d) (vs.set i v)
  | [], _, _, _, _, h, _ => by simp only [RpA] at h; subst h; simp [RpA]
  | d :: ds, _, _, _, 0, h, g => by
    simp only [RpA] at h
    obtain ⟨v, r, rfl, h1, h2⟩ := h
    simp only [List.set_cons_zero, RpA]
    exact ⟨_, _, rfl, g, h2⟩
  | d :: ds, _, _, _, i + 1, h, g => by
    simp only [RpA] at h
    obtain ⟨v, r, rfl, h1, h2⟩ := h
    simp only [List.set_cons_succ, RpA]
    exact ⟨_, _, rfl, h1, h2.set i g⟩
theorem RpA.rep : ∀ {ds : List D} {vs : List V} (n : Nat), RpA K f B ds vs → RpA K f B (List.replicate n ds).flatten (List.replicate n vs).flatten
  | _, _, 0, _ => by simp [RpA]
  | ds, vs, n + 1, h => by
    simp only [List.replicate_succ, List.flatten_cons]
    exact h.app (RpA.rep n h)
theorem RpA.dropLast : ∀ {ds : List D} {vs : List V}, RpA K f B ds vs → RpA K f B ds.dropLast vs.dropLast := fun {ds vs} h => by
  rw [List.dropLast_eq_take, List.dropLast_eq_take, h.len]
  exact h.take _
theorem RpA.rev : ∀ {ds : List D} {vs : List V}, RpA K f B ds vs → RpA K f B ds.reverse vs.reverse
  | [], _, h => by simp only [RpA] at h; subst h; simp [RpA]
  | d :: ds, _, h => by
    simp only [RpA] at h
    obtain ⟨v, r, rfl, h1, h2⟩ := h
    simp only [List.reverse_cons]
    exact h2.rev.app (.one h1)
theorem RpF.look {fs : List (Str × D)} {vs : List (Str × V)} {x : Str} : RpF K f B fs vs → (∀ d, fs.lookup x = some d → ∃ v, vs.lookup x = some v ∧ Rp K f B d v) ∧ (fs.lookup x = none → vs.lookup x = none) := by
  induction fs generalizing vs with
  | nil => intro h; cases h; exact ⟨fun d e => (by cases e), fun _ => rfl⟩
  | cons p fs ih =>
    intro h
    obtain ⟨k, d⟩ := p
    obtain ⟨v, r, rfl, h1, h2⟩ := h
    obtain ⟨i1, i2⟩ := ih h2
    simp only [List.lookup_cons]
    cases e : x == k with
    | true => exact ⟨fun d' q => (by cases q; exact ⟨v, rfl, h1⟩), fun q => (by cases q)⟩
    | false => exact ⟨i1, i2⟩
theorem RpF.len {κ : Type} : ∀ {fs : List (κ × D)} {vs : List (κ × V)}, RpF K f B fs vs → vs.length = fs.length
  | [], _, h => by cases h; rfl
  | (k, d) :: fs, _, h => by
    obtain ⟨v, r, rfl, _, h2⟩ := h
    simp only [List.length_cons, h2.len]
/-- as putF, on data -/
def putD (x : Str) (d : D) : List (Str × D) → List (Str × D)
  | [] => [(x, d)]
  | (y, e) :: fs => if y = x then (y, d) :: fs else (y, e) :: putD x d fs
theorem RpF.put {x : Str} {d : D} {v : V} (hd : Rp K f B d v) : ∀ {fs : List (Str × D)} {vs : List (Str × V)}, RpF K f B fs vs → RpF K f B (putD x d fs) (putF x v vs)
  | [], _, h => by cases h; exact ⟨v, [], rfl, hd, rfl⟩
  | (y, e) :: fs, _, h => by
    obtain ⟨w, r, rfl, h1, h2⟩ := h
    show RpF K f B (if y = x then (y, d) :: fs else (y, e) :: putD x d fs) (if y = x then (y, v) :: r else (y, w) :: putF x v r)
    by_cases q : y = x
    · rw [if_pos q, if_pos q]
      exact ⟨v, r, rfl, hd, h2⟩
    · rw [if_neg q, if_neg q]
      exact ⟨w, _, rfl, h1, RpF.put hd h2⟩
theorem RpK.toF : ∀ {kvs : List (Key × D)} {ps : List (Key × V)}, RpK K f B kvs ps ↔ RpF K f B kvs ps
  | [], ps => by simp only [RpK, RpF]
  | (k, d) :: kvs, ps => by
    simp only [RpK, RpF]
    constructor
    · rintro ⟨v, r, e, h1, h2⟩; exact ⟨v, r, e, h1, RpK.toF.mp h2⟩
    · rintro ⟨v, r, e, h1, h2⟩; exact ⟨v, r, e, h1, RpK.toF.mpr h2⟩
end

/-! ### objects in the heap -/
section
variable (K : PySem.W.Frag) (ca : Nat → Addr) (f : Fm) (B H : Hp)
def RpO (a : Addr) : O → Prop
  | .lst ds => ∃ vs, H a = some (.lst vs) ∧ RpA K f B ds vs
  | .dic kvs => ∃ ps, H a = some (.dK ps) ∧ RpF K f B kvs ps
  | .dit kvs => ∃ ps, H a = some (.dT ps) ∧ RpF K f B kvs ps
  | .ins c fs => ∃ dx vs, H a = some (.ins (ca c) dx vs) ∧ RpF K f B fs vs
  | .exc c fs => ∃ (d : Option Addr) (vs : List (Str × V)), H a = some (exo a (ca c) d) ∧ RpF K f B fs vs ∧ match d with
    | none => vs = []
    | some d => H d = some (exd d vs) ∧ d ≠ a ∧ B d = none ∧ ∀ n, f n ≠ some d
structure Sim (S : Sto) : Prop where
  ex : Hx B H
  dom : ∀ n a, f n = some a → n < S.length
  cell : ∀ n o, S[n]? = some (some o) → ∃ a, f n = some a ∧ B a = none ∧ RpO K ca f B H a o
  all : ∀ n a, f n = some a → ∃ o, H a = some o
  inj : ∀ n m o u a, S[n]? = some (some o) → S[m]? = some (some u) → f n = some a → f m = some a → n = m
end
end Mx
end

section
set_option maxRecDepth 100000
set_option maxHeartbeats 2000000
/-! Mx2: growth, own objects of names, results, readings of results. -/
namespace Mx
open PySem L2

inductive Sl where
  | no | val (d : D) | own (o : O)

/-- an operand: data, or an own object's content -/
inductive Ov where
  | d (d : D) | o (o : O) | bad
def rs (ρ : List Sl) : D → Ov
  | .loc i => match ρ[i]? with
    | some (.own o) => .o o
    | _ => .bad
  | d => .d d

inductive Res (α : Type) where
  | ok (a : α) (S : Sto) | exc (c : Nat) (fs : List (Str × D)) (S : Sto) | stuck
def Res.bind {α β : Type} (r : Res α) (k : α → Sto → Res β) : Res β := match r with
  | .ok a S => k a S
  | .exc c fs S => .exc c fs S
  | .stuck => .stuck
theorem Res.bind_ok {α β : Type} {a : α} {S : Sto} {k : α → Sto → Res β} : (Res.ok a S).bind k = k a S := rfl

structure Gw (f : Fm) (B H : Hp) (f' : Fm) (B' H' : Hp) : Prop where
  fx : Fx f f'
  bx : Hx B B'
  fr : ∀ a o, H a = some o → (∀ n, f n ≠ some a) → H' a = some o ∧ (∀ n, f' n ≠ some a) ∧ B' a = B a
theorem Gw.refl (f : Fm) (B H : Hp) : Gw f B H f B H := ⟨.refl f, .refl B, fun _ _ e n => ⟨e, n, rfl⟩⟩
theorem Gw.trans {f f1 f2 : Fm} {B B1 B2 H H1 H2 : Hp} (a : Gw f B H f1 B1 H1) (b : Gw f1 B1 H1 f2 B2 H2) : Gw f B H f2 B2 H2 :=
  ⟨a.fx.trans b.fx, a.bx.trans b.bx, fun x o e n => by
    obtain ⟨e1, n1, b1⟩ := a.fr x o e n
    obtain ⟨e2, n2, b2⟩ := b.fr x o e1 n1
    exact ⟨e2, n2, b2.trans b1⟩⟩

section
variable (K : PySem.W.Frag) (f : Fm) (B H : Hp)
/-- an own object at a -/
def RpC (a : Addr) : O → Prop
  | .lst ds => B a = none ∧ (∀ n, f n ≠ some a) ∧ ∃ vs, H a = some (.lst vs) ∧ RpA K f B ds vs
  | .dic kvs => B a = none ∧ (∀ n, f n ≠ some a) ∧ ∃ ps, H a = some (.dK ps) ∧ RpF K f B kvs ps
  | .dit kvs => B a = none ∧ (∀ n, f n ≠ some a) ∧ ∃ ps, H a = some (.dT ps) ∧ RpF K f B kvs ps
  | _ => False
def RpW : Ov → V → Prop
  | .d d, v => Rp K f B d v
  | .o o, v => ∃ a, v = V.ref a ∧ RpC K f B H a o
  | .bad, _ => False
structure EnvR (ρ : List Sl) (σ : L2.St) : Prop where
  len : ρ.length = σ.length
  val : ∀ (i : Nat) (d : D), ρ[i]? = some (.val d) → ∃ v, σ[i]? = some (some v) ∧ Rp K f B d v
  own : ∀ (i : Nat) (o : O), ρ[i]? = some (.own o) → ∃ a, σ[i]? = some (some (V.ref a)) ∧ RpC K f B H a o
  inj : ∀ (i j : Nat) (o u : O) (a : Addr), ρ[i]? = some (.own o) → ρ[j]? = some (.own u) → σ[i]? = some (some (V.ref a)) → σ[j]? = some (some (V.ref a)) → i = j
end
section
variable {K : PySem.W.Frag} {ca : Nat → Addr} {f f' : Fm} {B B' H H' : Hp} {ρ : List Sl} {σ : L2.St}
theorem RpC.at {a : Addr} {o : O} (h : RpC K f B H a o) : B a = none ∧ (∀ n, f n ≠ some a) ∧ ∃ u, H a = some u := by
  cases o with
  | lst ds => obtain ⟨b, n, vs, e, _⟩ := h; exact ⟨b, n, _, e⟩
  | dic ds => obtain ⟨b, n, vs, e, _⟩ := h; exact ⟨b, n, _, e⟩
  | dit ds => obtain ⟨b, n, vs, e, _⟩ := h; exact ⟨b, n, _, e⟩
  | ins c fs => exact h.elim
  | exc c fs => exact h.elim
theorem RpC.gw (g : Gw f B H f' B' H') {a : Addr} {o : O} (h : RpC K f B H a o) : RpC K f' B' H' a o := by
  cases o with
  | lst ds =>
    obtain ⟨b, n, vs, e, r⟩ := h
    obtain ⟨e', n', b'⟩ := g.fr a _ e n
    exact ⟨b'.trans b, n', vs, e', r.mono g.fx g.bx⟩
  | dic ds =>
    obtain ⟨b, n, vs, e, r⟩ := h
    obtain ⟨e', n', b'⟩ := g.fr a _ e n
    exact ⟨b'.trans b, n', vs, e', r.mono g.fx g.bx⟩
  | dit ds =>
    obtain ⟨b, n, vs, e, r⟩ := h
    obtain ⟨e', n', b'⟩ := g.fr a _ e n
    exact ⟨b'.trans b, n', vs, e', r.mono g.fx g.bx⟩
  | ins c fs => exact h.elim
  | exc c fs => exact h.elim
theorem RpW.gw (g : Gw f B H f' B' H') {x : Ov} {v : V} (h : RpW K f B H x v) : RpW K f' B' H' x v := by
  cases x with
  | d d => exact Rp.mono g.fx g.bx d h
  | o o => obtain ⟨a, e, r⟩ := h; exact ⟨a, e, r.gw g⟩
  | bad => exact h.elim
theorem EnvR.gw (g : Gw f B H f' B' H') (h : EnvR K f B H ρ σ) : EnvR K f' B' H' ρ σ :=
  ⟨h.len, fun i d e => let ⟨v, e1, r⟩ := h.val i d e; ⟨v, e1, r.mono g.fx g.bx⟩, fun i o e => let ⟨a, e1, r⟩ := h.own i o e; ⟨a, e1, r.gw g⟩, h.inj⟩
/-- what an evaluated value stands for: data, or the own object of a name -/
def RpX (K : PySem.W.Frag) (f : Fm) (B H : Hp) (ρ : List Sl) (d : D) (v : V) : Prop := RpW K f B H (rs ρ d) v
theorem rs_nloc {d : D} (h : ∀ i, d ≠ .loc i) : rs ρ d = .d d := by
  cases d with
  | loc i => exact absurd rfl (h i)
  | _ => rfl
theorem Rp.nloc {d : D} {v : V} (h : Rp K f B d v) : ∀ i, d ≠ .loc i := fun i e => by
  subst e
  simp only [Rp] at h
theorem Rp.x {d : D} {v : V} (h : Rp K f B d v) : RpX K f B H ρ d v := by
  unfold RpX
  rw [rs_nloc h.nloc]
  exact h
theorem RpX.gw (g : Gw f B H f' B' H') {d : D} {v : V} (h : RpX K f B H ρ d v) : RpX K f' B' H' ρ d v := RpW.gw g h

/-! ### growth of the whole -/
variable {S : Sto}
theorem Sim.live {n : Nat} {o : O} {a : Addr} (h : Sim K ca f B H S) (e : S[n]? = some (some o)) (ea : f n = some a) : B a = none ∧ RpO K ca f B H a o := by
  obtain ⟨a', e', r⟩ := h.cell n o e
  rw [ea] at e'
  cases e'
  exact r
theorem RpO.there {a : Addr} {o : O} (h : RpO K ca f B H a o) : ∃ u, H a = some u := by
  cases o with
  | lst ds => obtain ⟨vs, e, _⟩ := h; exact ⟨_, e⟩
  | dic ds => obtain ⟨vs, e, _⟩ := h; exact ⟨_, e⟩
  | dit ds => obtain ⟨vs, e, _⟩ := h; exact ⟨_, e⟩
  | ins c fs => obtain ⟨dx, vs, e, _⟩ := h; exact ⟨_, e⟩
  | exc c fs => obtain ⟨dx, vs, e, _⟩ := h; exact ⟨_, e⟩
/-- an object is as it was, where its cells are as they were -/
theorem RpO.keep {a : Addr} {o : O} (h : RpO K ca f B H a o) (ef : Fx f f') (eb : Hx B B') (e : H' a = H a) (ed : ∀ d u, H d = some u → d ≠ a → B d = none → (∀ n, f n ≠ some d) → H' d = some u ∧ B' d = none ∧ ∀ n, f' n ≠ some d) : RpO K ca f' B' H' a o := by
  cases o with
  | lst ds => obtain ⟨vs, q, r⟩ := h; exact ⟨vs, e.trans q, r.mono ef eb⟩
  | dic ds => obtain ⟨vs, q, r⟩ := h; exact ⟨vs, e.trans q, r.mono ef eb⟩
  | dit ds => obtain ⟨vs, q, r⟩ := h; exact ⟨vs, e.trans q, r.mono ef eb⟩
  | ins c fs => obtain ⟨dx, vs, q, r⟩ := h; exact ⟨dx, vs, e.trans q, r.mono ef eb⟩
  | exc c fs =>
    obtain ⟨d, vs, q, r, z⟩ := h
    refine ⟨d, vs, e.trans q, r.mono ef eb, ?_⟩
    cases d with
    | none => exact z
    | some d =>
      obtain ⟨z1, z0, z2, z3⟩ := z
      obtain ⟨y1, y2, y3⟩ := ed d _ z1 z0 z2 z3
      exact ⟨y1, z0, y2, y3⟩
end
end Mx
end

section
set_option maxRecDepth 100000
set_option maxHeartbeats 2000000
/-! Mx3: what a store's step does to the heap; readings of results. -/
namespace Mx
open PySem L2
section
variable {K : PySem.W.Frag} {ca : Nat → Addr} {f f' : Fm} {B B' H H' : Hp} {ρ : List Sl} {σ : L2.St} {S S' : Sto}
theorem Sim.gw (h : Sim K ca f B H S) (g : Gw f B H f' B' H') (hx : Hx B' H') (hd : ∀ n a, f' n = some a → n < S'.length)
    (hc : ∀ (n : Nat) (o : O), S'[n]? = some (some o) → (S[n]? = some (some o) ∧ ∀ a, f n = some a → H' a = H a ∧ B' a = none) ∨ (∃ a, f' n = some a ∧ B' a = none ∧ RpO K ca f' B' H' a o))
    (ha : ∀ n a, f' n = some a → ∃ o, H' a = some o)
    (hi : ∀ (n m : Nat) (o u : O) (a : Addr), S'[n]? = some (some o) → S'[m]? = some (some u) → f' n = some a → f' m = some a → n = m) : Sim K ca f' B' H' S' :=
  ⟨hx, hd, fun n o e => by
    rcases hc n o e with ⟨e0, hk⟩ | r
    · obtain ⟨a, ea, eb, ro⟩ := h.cell n o e0
      obtain ⟨q1, q2⟩ := hk a ea
      refine ⟨a, g.fx _ _ ea, q2, ro.keep g.fx g.bx q1 fun d u z1 _ z3 z4 => ?_⟩
      obtain ⟨y1, y2, y3⟩ := g.fr d u z1 z4
      exact ⟨y1, y3.trans z3, y2⟩
    · exact r, ha, hi⟩
/-- more stands in the heap -/
theorem Gw.ext (e : Hx H H') : Gw f B H f B H' := ⟨.refl f, .refl B, fun a o h n => ⟨e a o h, n, rfl⟩⟩
theorem Sim.ext (h : Sim K ca f B H S) (e : Hx H H') : Sim K ca f B H' S :=
  h.gw (.ext e) (h.ex.trans e) h.dom (fun n o q => .inl ⟨q, fun a ea => by
    obtain ⟨b, r⟩ := h.live q ea
    obtain ⟨u, hu⟩ := r.there
    exact ⟨by rw [hu]; exact e _ _ hu, b⟩⟩) (fun n a q => let ⟨o, z⟩ := h.all n a q; ⟨o, e _ _ z⟩) h.inj
theorem Sim.free (h : Sim K ca f B H S) {p : Addr} (hp : H p = none) : B p = none := by
  cases e : B p with
  | none => rfl
  | some o => rw [h.ex p o e] at hp; cases hp
theorem upd_there {H : Hp} {a p : Addr} {u : HO} (h : ∃ o, H a = some o) : ∃ o, upd H p u a = some o := by
  by_cases q : a = p
  · exact ⟨u, by rw [q, upd_same]⟩
  · obtain ⟨o, z⟩ := h; exact ⟨o, by rw [upd_ne q]; exact z⟩
/-- a new frozen object -/
theorem Gw.frz {p : Addr} {u : HO} (hp : H p = none) (bp : B p = none) : Gw f B H f (upd B p u) (upd H p u) :=
  ⟨.refl f, .new bp, fun a o h n => by
    have q : a ≠ p := ne_of_none h hp
    exact ⟨by rw [upd_ne q]; exact h, n, upd_ne q⟩⟩
theorem Hx.upd2 {p : Addr} {u : HO} (e : Hx B H) : Hx (upd B p u) (upd H p u) := fun a o h => by
  by_cases q : a = p
  · subst q; rw [upd_same] at h ⊢; exact h
  · rw [upd_ne q] at h ⊢; exact e a o h
theorem Sim.frz (h : Sim K ca f B H S) {p : Addr} {u : HO} (hp : H p = none) : Sim K ca f (upd B p u) (upd H p u) S :=
  h.gw (.frz hp (h.free hp)) h.ex.upd2 h.dom (fun n o q => .inl ⟨q, fun a ea => by
    obtain ⟨b, r⟩ := h.live q ea
    obtain ⟨w, hw⟩ := r.there
    have ne : a ≠ p := ne_of_none hw hp
    exact ⟨upd_ne ne, by rw [upd_ne ne]; exact b⟩⟩) (fun n a q => upd_there (h.all n a q)) h.inj
/-- a free address is no object's -/
theorem Sim.nof (h : Sim K ca f B H S) {p : Addr} (hp : H p = none) : ∀ n, f n ≠ some p := fun n e => by
  obtain ⟨o, z⟩ := h.all n p e
  rw [hp] at z; cases z
/-- a new object of the store -/
def fnew (f : Fm) (n : Nat) (p : Addr) : Fm := fun m => if m = n then some p else f m
theorem fnew_same {n : Nat} {p : Addr} : fnew f n p n = some p := if_pos rfl
theorem fnew_ne {n m : Nat} {p : Addr} (h : m ≠ n) : fnew f n p m = f m := if_neg h
theorem Sim.fdom (h : Sim K ca f B H S) : f S.length = none := by
  cases e : f S.length with
  | none => rfl
  | some a => exact absurd (h.dom _ _ e) (Nat.lt_irrefl _)
theorem Fx.new (h : f S.length = none) {p : Addr} : Fx f (fnew f S.length p) := fun n a e => by
  have q : n ≠ S.length := fun z => by rw [z, h] at e; cases e
  rw [fnew_ne q]; exact e
theorem Gw.new (h : f S.length = none) {p : Addr} (hp : H p = none) (e : Hx H H') : Gw f B H (fnew f S.length p) B H' :=
  ⟨.new h, .refl B, fun a o q n => ⟨e a o q, fun m z => by
    by_cases hm : m = S.length
    · rw [hm, fnew_same] at z; cases z; rw [hp] at q; cases q
    · rw [fnew_ne hm] at z; exact n m z, rfl⟩⟩
theorem Sim.new (h : Sim K ca f B H S) {p : Addr} {o : O} (hp : H p = none) (e : Hx H H') (r : RpO K ca (fnew f S.length p) B H' p o) : Sim K ca (fnew f S.length p) B H' (S ++ [some o]) := by
  refine h.gw (.new h.fdom hp e) (h.ex.trans e) (fun n a q => ?_) (fun n u q => ?_) (fun n a q => ?_) (fun n m u w a q1 q2 e1 e2 => ?_)
  · rw [List.length_append]
    by_cases hn : n = S.length
    · rw [hn]; exact Nat.lt_succ_self _
    · rw [fnew_ne hn] at q; exact Nat.lt_succ_of_lt (h.dom n a q)
  · by_cases hn : n < S.length
    · rw [List.getElem?_append_left hn] at q
      exact .inl ⟨q, fun a ea => by
        obtain ⟨b, r⟩ := h.live q ea
        obtain ⟨w, hw⟩ := r.there
        exact ⟨by rw [hw]; exact e _ _ hw, b⟩⟩
    · have hl := (List.getElem?_eq_some_iff.mp q).1
      rw [List.length_append] at hl
      have en : n = S.length := by simp at hl; omega
      subst en
      rw [List.getElem?_append_right (Nat.le_refl _)] at q
      simp at q
      subst q
      exact .inr ⟨p, fnew_same, h.free hp, r⟩
  · by_cases hn : n = S.length
    · rw [hn, fnew_same] at q; cases q; exact r.there
    · rw [fnew_ne hn] at q
      obtain ⟨o, z⟩ := h.all n a q
      exact ⟨o, e _ _ z⟩
  · have key : ∀ (k : Nat) (u : O), (S ++ [some o])[k]? = some (some u) → fnew f S.length p k = some a → k ≠ S.length → S[k]? = some (some u) ∧ f k = some a ∧ a ≠ p := fun k u qk ek nk => by
      rw [fnew_ne nk] at ek
      have lk := h.dom _ _ ek
      rw [List.getElem?_append_left lk] at qk
      obtain ⟨_, rr⟩ := h.live qk ek
      obtain ⟨x, hx⟩ := rr.there
      exact ⟨qk, ek, ne_of_none hx hp⟩
    by_cases hn : n = S.length
    · by_cases hm : m = S.length
      · rw [hn, hm]
      · rw [hn, fnew_same] at e1
        cases e1
        exact absurd rfl (key m w q2 e2 hm).2.2
    · by_cases hm : m = S.length
      · rw [hm, fnew_same] at e2
        cases e2
        exact absurd rfl (key n u q1 e1 hn).2.2
      · obtain ⟨a1, a2, _⟩ := key n u q1 e1 hn
        obtain ⟨b1, b2, _⟩ := key m w q2 e2 hm
        exact h.inj n m u w a a1 b1 a2 b2
/-- an object of the store is written -/
theorem Gw.write {n : Nat} {a : Addr} {u : HO} (ea : f n = some a) : Gw f B H f B (upd H a u) :=
  ⟨.refl f, .refl B, fun b o q nb => by
    have ne : b ≠ a := fun z => nb n (by rw [z]; exact ea)
    exact ⟨by rw [upd_ne ne]; exact q, nb, rfl⟩⟩
theorem set_live {S : Sto} {n m : Nat} {o u : O} (q : (S.set n (some o))[m]? = some (some u)) : (m = n ∧ u = o) ∨ (m ≠ n ∧ S[m]? = some (some u)) := by
  by_cases hm : m = n
  · subst hm
    have hl := (List.getElem?_eq_some_iff.mp q).1
    rw [List.length_set] at hl
    rw [List.getElem?_set_self hl] at q
    injection q with q
    injection q with q
    exact .inl ⟨rfl, q.symm⟩
  · rw [List.getElem?_set_ne (Ne.symm hm)] at q
    exact .inr ⟨hm, q⟩
theorem Sim.write (h : Sim K ca f B H S) {n : Nat} {a : Addr} {o o' : O} {u : HO} (e : S[n]? = some (some o)) (ea : f n = some a) (r : RpO K ca f B (upd H a u) a o') : Sim K ca f B (upd H a u) (S.set n (some o')) := by
  obtain ⟨b, ro⟩ := h.live e ea
  have old : ∀ (m : Nat) (w : O), (S.set n (some o'))[m]? = some (some w) → ∃ w', S[m]? = some (some w') := fun m w q => by
    rcases set_live q with ⟨z, _⟩ | ⟨_, z⟩
    · exact ⟨o, by rw [z]; exact e⟩
    · exact ⟨w, z⟩
  refine h.gw (.write ea) (fun c x hc => ?_) (fun m c q => by rw [List.length_set]; exact h.dom m c q) (fun m w q => ?_) (fun m c q => upd_there (h.all m c q)) (fun m k w x c q1 q2 e1 e2 => ?_)
  · have ne : c ≠ a := fun z => by rw [z, b] at hc; cases hc
    rw [upd_ne ne]; exact h.ex c x hc
  · rcases set_live q with ⟨z1, z2⟩ | ⟨z1, z2⟩
    · subst z1; subst z2
      exact .inr ⟨a, ea, b, r⟩
    · refine .inl ⟨z2, fun c ec => ?_⟩
      have ne : c ≠ a := fun z => z1 (h.inj m n w o a z2 e (z ▸ ec) ea)
      exact ⟨upd_ne ne, (h.live z2 ec).1⟩
  · obtain ⟨w', z1⟩ := old m w q1
    obtain ⟨x', z2⟩ := old k x q2
    exact h.inj m k w' x' c z1 z2 e1 e2
end

/-! ### what is wanted of a result -/
/-- what stands for an exception's fields -/
def Xd (K : PySem.W.Frag) (f : Fm) (B H : Hp) (fs : List (Str × D)) (dd : Option Addr) : Prop :=
  (fs = [] ∧ dd = none) ∨ ∃ d vs, dd = some d ∧ H d = some (.xd vs) ∧ RpF K f B fs vs
section
variable (K : PySem.W.Frag) (ca : Nat → Addr) (W : WX)
def Post {α β : Type} (R : Fm → Hp → Hp → α → β → Prop) (σ : L2.St) (f : Fm) (B H : Hp) (Q : β → Hp → Prop) : Res α → Prop
  | .ok a S' => ∀ f' B' H' v, Gw f B H f' B' H' → Sim K ca f' B' H' S' → R f' B' H' a v → Q v H'
  | .exc c fs S' => ∀ f' B' H' dd, Gw f B H f' B' H' → Sim K ca f' B' H' S' → Xd K f' B' H' fs dd → W (.ref (ca c)) dd σ H'
  | .stuck => False
end
section
variable {K : PySem.W.Frag} {ca : Nat → Addr} {W : WX} {f f' : Fm} {B B' H H' : Hp} {ρ : List Sl} {σ : L2.St} {S S' : Sto}
theorem Post.gw {α β : Type} {R : Fm → Hp → Hp → α → β → Prop} {Q : β → Hp → Prop} (g : Gw f B H f' B' H') : ∀ {r : Res α}, Post K ca W R σ f B H Q r → Post K ca W R σ f' B' H' Q r
  | .ok a S', h => fun f2 B2 H2 v g2 => h f2 B2 H2 v (g.trans g2)
  | .exc c fs S', h => fun f2 B2 H2 v g2 => h f2 B2 H2 v (g.trans g2)
  | .stuck, h => h
theorem Post.bind {α β γ δ : Type} {R : Fm → Hp → Hp → α → β → Prop} {R' : Fm → Hp → Hp → γ → δ → Prop} {Q : δ → Hp → Prop} {r : Res α} {k : α → Sto → Res γ} (h : Post K ca W R' σ f B H Q (r.bind k)) :
    Post K ca W R σ f B H (fun v H1 => ∃ a S1 f1 B1, Gw f B H f1 B1 H1 ∧ Sim K ca f1 B1 H1 S1 ∧ R f1 B1 H1 a v ∧ Post K ca W R' σ f1 B1 H1 Q (k a S1)) r := by
  cases r with
  | ok a S1 => exact fun f1 B1 H1 v g s r => ⟨a, S1, f1, B1, g, s, r, Post.gw (r := k a S1) g h⟩
  | exc c fs S1 => exact h
  | stuck => exact h
theorem Post.imp {α β : Type} {R : Fm → Hp → Hp → α → β → Prop} {Q Q' : β → Hp → Prop} (hq : ∀ v H', Q v H' → Q' v H') : ∀ {r : Res α}, Post K ca W R σ f B H Q r → Post K ca W R σ f B H Q' r
  | .ok a S', h => fun f2 B2 H2 v g s r => hq v H2 (h f2 B2 H2 v g s r)
  | .exc c fs S', h => h
  | .stuck, h => h
end
/-! ### readings -/
section
variable (K : PySem.W.Frag) (ca : Nat → Addr) (W : WX)
abbrev RX (ρ : List Sl) : Fm → Hp → Hp → D → V → Prop := fun f B H d v => RpX K f B H ρ d v
abbrev RB : Fm → Hp → Hp → Bool → Bool → Prop := fun _ _ _ a b => a = b
def RXs (ρ : List Sl) : Fm → Hp → Hp → List D → List V → Prop := fun f B H ds vs => Paired (fun d v => RpX K f B H ρ d v) ds vs
/-- the state's relation -/
structure At (ρ : List Sl) (S : Sto) (f : Fm) (B : Hp) (σ : L2.St) (H : Hp) : Prop where
  en : EnvR K f B H ρ σ
  si : Sim K ca f B H S
def rdE (r : List Sl → Sto → Res D) : TE := fun σ H Q => ∃ ρ S f B, At K ca ρ S f B σ H ∧ Post K ca W (RX K ρ) σ f B H Q (r ρ S)
def rdT (r : List Sl → Sto → Res Bool) : TT := fun σ H Q => ∃ ρ S f B, At K ca ρ S f B σ H ∧ Post K ca W RB σ f B H Q (r ρ S)
def rdA (r : List Sl → Sto → Res (List D)) : TA := fun σ H Q => ∃ ρ S f B, At K ca ρ S f B σ H ∧ Post K ca W (RXs K ρ) σ f B H Q (r ρ S)
end
section
variable {K : PySem.W.Frag} {ca : Nat → Addr} {W : WX} {f f' : Fm} {B B' H H' : Hp} {ρ : List Sl} {σ : L2.St} {S S' : Sto}
theorem At.gw (h : At K ca ρ S f B σ H) (g : Gw f B H f' B' H') (s : Sim K ca f' B' H' S') : At K ca ρ S' f' B' σ H' := ⟨h.en.gw g, s⟩
theorem _root_.L2.PE.imp {X : Cx} {e : Expr} {t t' : TE} (h : PE X e t) (i : ∀ σ H Q, t' σ H Q → t σ H Q) : PE X e t' := ⟨fun pins s σ H Q I q => h.run pins s σ H Q I (i σ H Q q)⟩
theorem _root_.L2.PT.imp {X : Cx} {e : Expr} {t t' : TT} (h : PT X e t) (i : ∀ σ H Q, t' σ H Q → t σ H Q) : PT X e t' := ⟨fun pins s σ H Q I q => h.run pins s σ H Q I (i σ H Q q)⟩
theorem _root_.L2.PA.imp {X : Cx} {e : List Expr} {t t' : TA} (h : PA X e t) (i : ∀ σ H Q, t' σ H Q → t σ H Q) : PA X e t' := ⟨fun pos pins s σ H Q I q => h.run pos pins s σ H Q I (i σ H Q q)⟩
theorem _root_.L2.PS.imp {X : Cx} {e : Stmt} {t t' : TS} (h : PS X e t) (i : ∀ D σ H, t' D σ H → t D σ H) : PS X e t' := ⟨fun pins s σ H D I q => h.run pins s σ H D I (i D σ H q)⟩
theorem _root_.L2.PSs.imp {X : Cx} {e : List Stmt} {t t' : TS} (h : PSs X e t) (i : ∀ D σ H, t' D σ H → t D σ H) : PSs X e t' := ⟨fun pins s σ H D I q => h.run pins s σ H D I (i D σ H q)⟩
end
end Mx
end

section
set_option maxRecDepth 100000
set_option maxHeartbeats 2000000
/-! Mx4: the small language and its evaluator. -/
namespace Mx
open PySem L2

inductive Bo where | add | sub | mul | fdiv | mod | pow
inductive Co where | eq | ne | lt | le | gt | ge | is | isnot | isin | notin
/-- built-in functions -/
inductive Bi where | len | abs | int | bool | str | min2 | max2 | all | any | tuple | list | repr | sorted
/-- methods of built-in kinds -/
inductive Bm where | split1 | join | startswith | endswith | partition | removeprefix | index | pop | count
/-- what isinstance asks for: built-in kinds, or a class of the text -/
inductive Ic where | ty (n : String) | cls (c : Nat) | two (a b : String)
  deriving DecidableEq
inductive Tg where | name (i : Nat) | tup (l : List Nat)
inductive Ex where
  | var (i : Nat) | con (d : D) | glo (x : Str) (d : D)
  | bin (o : Bo) (a b : Ex) | neg (a : Ex)
  | notE (a : Ex) | andE (a b : Ex) | orE (a b : Ex) | ite (t a b : Ex)
  | cmp (o : Co) (a b : Ex) | chain (o o' : Co) (a b c : Ex)
  | nil | cons (a l : Ex) | tup (l : Ex) | lst (l : Ex)
  | call (g : Nat) (l : Ex) | mk (c : Nat) (l : Ex) | new (c g : Nat) (l : Ex) | meth (c g : Nat) (m : Str) (o l : Ex)
  | bi (b : Bi) (l : Ex) | isi (a : Ex) (c : Ic)
  | fld (c : Nat) (a : Ex) (x : Str) | xfl (c : Nat) (a : Ex) (x : Str) | ix (a i : Ex)
  | comp (t : Tg) (s c e : Ex) | seq (a : Ex) | rng1 (a : Ex) | rng2 (a b : Ex) | enum (a : Ex)

/-! ### operations on operands -/
def seqOv (S : Sto) : Ov → Option (List D)
  | .d (.lst ds) => some ds
  | .d (.obj n) => match S[n]? with
    | some (some (.lst ds)) => some ds
    | _ => none
  | .o (.lst ds) => some ds
  | _ => none
/-- lists that are only read, too -/
def seqRd (S : Sto) : Ov → Option (List D)
  | .d (.frl ds) => some ds
  | o => seqOv S o
mutual
def toPy : D → Option PyData
  | .non => some .none
  | .bl b => some (.bool b)
  | .int i => some (.int i)
  | .str s => some (.str s)
  | .lst ds => (toPyA ds).map .list
  | .tup ds => (toPyA ds).map .tuple
  | _ => none
def toPyA : List D → Option (List PyData)
  | [] => some []
  | d :: ds => match toPy d, toPyA ds with
    | some p, some ps => some (p :: ps)
    | _, _ => none
end
def pyOv (S : Sto) (o : Ov) : Option PyData := match seqOv S o with
  | some ds => (toPyA ds).map .list
  | none => match o with
    | .d d => toPy d
    | _ => none
def flatD : D → Bool
  | .non | .bl _ | .int _ | .str _ => true
  | _ => false
/-- == of flat data -/
def eqF : D → D → Bool
  | .non, .non => true
  | .bl a, .bl b => a == b
  | .bl a, .int b => (if a then 1 else 0) == b
  | .int a, .bl b => a == (if b then 1 else 0)
  | .int a, .int b => a == b
  | .str a, .str b => a == b
  | _, _ => false
def inD (x : D) (xs : List D) : Bool := xs.any fun y => eqF y x
def okIf {α : Type} (c : Prop) [Decidable c] (a : α) (S : Sto) : Res α := if c then .ok a S else .stuck
theorem okIf_pos {α : Type} {c : Prop} [Decidable c] {a : α} {S : Sto} (h : c) : okIf c a S = .ok a S := if_pos h

def opB (o : Bo) (a b : Ov) (S : Sto) : Res D := match o with
  | .add => match a, b with
    | .d (.int i), .d (.int j) => .ok (.int (i + j)) S
    | .d (.str x), .d (.str y) => okIf (x.length + y.length ≤ sizeLine) (.str (x ++ y)) S
    | .d (.tup xs), .d (.tup ys) => okIf (xs ≠ [] ∧ ys ≠ [] ∧ xs.length + ys.length ≤ sizeLine) (.tup (xs ++ ys)) S
    | a, b => match seqOv S a, seqOv S b with
      | some xs, some ys => okIf (xs.length + ys.length ≤ sizeLine) (.lst (xs ++ ys)) S
      | _, _ => .stuck
  | .sub => match a, b with
    | .d (.int i), .d (.int j) => .ok (.int (i - j)) S
    | _, _ => .stuck
  | .mul => match a, b with
    | .d (.int i), .d (.int j) => okIf (i.natAbs < 2 ^ 200 ∧ j.natAbs < 2 ^ 200) (.int (i * j)) S
    | a, .d (.int k) => match seqOv S a with
      | some xs => okIf (-(2 ^ 63) ≤ k ∧ k < 2 ^ 63 ∧ xs.length * k.toNat ≤ sizeLine) (.lst (List.replicate k.toNat xs).flatten) S
      | none => .stuck
    | _, _ => .stuck
  | .fdiv => match a, b with
    | .d (.int i), .d (.int j) => okIf (0 < j ∧ j.natAbs < 2 ^ 200) (.int (i / j)) S
    | _, _ => .stuck
  | .mod => match a, b with
    | .d (.int i), .d (.int j) => okIf (0 < j) (.int (i % j)) S
    | _, _ => .stuck
  | .pow => match a, b with
    | .d (.int i), .d (.int j) => okIf (0 ≤ j ∧ j ≤ 1000000 ∧ i.natAbs < 2 ^ 64) (.int (i ^ j.toNat)) S
    | _, _ => .stuck
def opEq (a b : Ov) (S : Sto) : Option Bool := match pyOv S a, pyOv S b with
  | some p, some q => if SeqAt.shaped p = true ∧ SeqAt.shaped q = true then some (PyData.eqv p q) else none
  | _, _ => none
def opIn (a b : Ov) (S : Sto) : Option Bool := match a with
  | .d x => match (match b with | .d (.tup ys) => some ys | b => seqOv S b) with
    | some ys => if flatD x = true ∧ ys.all flatD = true then some (inD x ys) else none
    | none => none
  | _ => none
def blR (b : Option Bool) (S : Sto) : Res D := match b with
  | some b => .ok (.bl b) S
  | none => .stuck
def isNonD : D → Bool
  | .non => true
  | _ => false
def twoS : Ov → Ov → Option (Str × Str)
  | .d (.str x), .d (.str y) => some (x, y)
  | _, _ => none
def opC (o : Co) (a b : Ov) (S : Sto) : Res D := match o with
  | .eq => match twoS a b with
    | some z => .ok (.bl (decide (V.str z.1 = V.str z.2))) S
    | none => blR (opEq a b S) S
  | .ne => match twoS a b with
    | some z => .ok (.bl (!decide (V.str z.1 = V.str z.2))) S
    | none => blR ((opEq a b S).map (!·)) S
  | .isin => blR (opIn a b S) S
  | .notin => blR ((opIn a b S).map (!·)) S
  | .is => match a, b with
    | .d x, .d .non => .ok (.bl (isNonD x)) S
    | _, _ => .stuck
  | .isnot => match a, b with
    | .d x, .d .non => .ok (.bl (!isNonD x)) S
    | _, _ => .stuck
  | .lt => match a, b with
    | .d (.int i), .d (.int j) => .ok (.bl (decide (i < j))) S
    | _, _ => .stuck
  | .le => match a, b with
    | .d (.int i), .d (.int j) => .ok (.bl (decide (i ≤ j))) S
    | _, _ => .stuck
  | .gt => match a, b with
    | .d (.int i), .d (.int j) => .ok (.bl (decide (j < i))) S
    | _, _ => .stuck
  | .ge => match a, b with
    | .d (.int i), .d (.int j) => .ok (.bl (decide (j ≤ i))) S
    | _, _ => .stuck
def opIx (a b : Ov) (S : Sto) : Res D := match b with
  | .d (.int i) => match a with
    | .d (.tup xs) => match atI xs i with
      | some d => .ok d S
      | none => .stuck
    | a => match seqRd S a with
      | some xs => match atI xs i with
        | some d => .ok d S
        | none => .stuck
      | none => .stuck
  | _ => .stuck
def opBi (b : Bi) (l : List Ov) (S : Sto) : Res D := match b, l with
  | .len, [.d (.str x)] => okIf (x.length ≤ sizeLine) (.int x.length) S
  | .len, [.d (.tup xs)] => .ok (.int xs.length) S
  | .len, [a] => match seqRd S a with
    | some xs => .ok (.int xs.length) S
    | none => .stuck
  | .abs, [.d (.int i)] => .ok (.int (if i < 0 then -i else i)) S
  | .int, [.d (.int i)] => .ok (.int i) S
  | .int, [.d (.bl k)] => .ok (.int (if k then 1 else 0)) S
  | .max2, [.d (.int i), .d (.int j)] => .ok (.int (if j > i then j else i)) S
  | .min2, [.d (.int i), .d (.int j)] => .ok (.int (if j < i then j else i)) S
  | .repr, [a] => match pyOv S a with
    | some (.list xs) => okIf (PyData.showable (.list xs) = true ∧ (PyData.list xs).hasDict = false ∧ (PyData.list xs).depth ≤ 60 ∧ (PyData.list xs).shown.length ≤ sizeLine) (.str (PyData.list xs).shown) S
    | _ => .stuck
  | _, _ => .stuck
def opFld (c : Nat) (x : Str) (a : Ov) (S : Sto) : Res D := match a with
  | .d (.obj n) => match S[n]? with
    | some (some (.ins k fs)) => if k = c then (match fs.lookup x with
      | some d => .ok d S
      | none => .stuck) else .stuck
    | _ => .stuck
  | _ => .stuck
def opXfl (c : Nat) (x : Str) (a : Ov) (S : Sto) : Res D := match a with
  | .d (.obj n) => match S[n]? with
    | some (some (.exc k fs)) => if k = c then (match fs.lookup x with
      | some d => .ok d S
      | none => .stuck) else .stuck
    | _ => .stuck
  | _ => .stuck
end Mx
end

section
set_option maxRecDepth 100000
set_option maxHeartbeats 2000000
/-! Mx5: the evaluator. -/
namespace Mx
open PySem L2

def plainD : D → Bool
  | .loc _ => false
  | _ => true
abbrev Calls := Nat → List D → Sto → Res D
structure PrX where
  call : Calls
  mkE : Calls
  isa : Nat → Ic → Option Bool
  exf : Nat → List Str

def wipeS (ρ : List Sl) : List Nat → List Sl
  | [] => ρ
  | v :: vs => (wipeS ρ vs).set v .no
def setAll (ρ : List Sl) : List Nat → List D → Option (List Sl)
  | [], [] => some ρ
  | i :: is, d :: ds => setAll (ρ.set i (.val d)) is ds
  | _, _ => none
def asgT (t : Tg) (d : D) (ρ : List Sl) : Option (List Sl) := match t with
  | .name i => some (ρ.set i (.val d))
  | .tup is => match d with
    | .tup ds => if ds.length = is.length then setAll ρ is ds else none
    | _ => none
def Tg.slots : Tg → List Nat
  | .name i => [i]
  | .tup l => l
def intsD (lo : Int) : Nat → List D
  | 0 => []
  | n + 1 => .int lo :: intsD (lo + 1) n
def enumD (i : Int) : List D → List D
  | [] => []
  | d :: ds => .tup [.int i, d] :: enumD (i + 1) ds
/-- an iterable: its items; the object of the store that it walks -/
structure Itb where
  ds : List D
  src : Option Nat
  own : Bool
/-- the walked object is as it was -/
def Itb.Still (it : Itb) (S : Sto) : Prop := ∀ n, it.src = some n → ∃ ds, S[n]? = some (some (.lst ds)) ∧ ds = it.ds
def seqIt (S : Sto) (o : Ov) : Option Itb := match o with
  | .d (.tup ds) => some ⟨ds, none, false⟩
  | .d (.str x) => some ⟨x.cps.toList.map fun c => .str ⟨#[c]⟩, none, false⟩
  | .d (.obj n) => match S[n]? with
    | some (some (.lst ds)) => some ⟨ds, some n, false⟩
    | _ => none
  | .o (.lst ds) => some ⟨ds, none, true⟩
  | o => match seqRd S o with
    | some ds => some ⟨ds, none, false⟩
    | none => none
open Classical in
/-- the turns of a comprehension -/
noncomputable def compL (still : Sto → Prop) (turn : D → Sto → Res (Option D)) : List D → List D → Sto → Res (List D)
  | [], acc, S => if still S then .ok acc S else .stuck
  | x :: xs, acc, S => if still S then (turn x S).bind fun r S1 => match r with
      | some y => if acc.length < sizeLine then compL still turn xs (acc ++ [y]) S1 else .stuck
      | none => compL still turn xs acc S1
    else .stuck
def noExc {α : Type} : Res α → Res α
  | .exc _ _ _ => .stuck
  | r => r
def asB (d : D) (S : Sto) : Res Bool := match d with
  | .bl b => .ok b S
  | _ => .stuck

mutual
noncomputable def evE (P : PrX) (ρ : List Sl) : Ex → Sto → Res D
  | .var i, S => match ρ[i]? with
    | some (.val d) => .ok d S
    | some (.own _) => .ok (.loc i) S
    | _ => .stuck
  | .con d, S => .ok d S
  | .glo _ d, S => .ok d S
  | .bin o a b, S => (evE P ρ a S).bind fun x S1 => (evE P ρ b S1).bind fun y S2 => noExc (opB o (rs ρ x) (rs ρ y) S2)
  | .neg a, S => (evE P ρ a S).bind fun x S1 => match x with
    | .int i => .ok (.int (-i)) S1
    | _ => .stuck
  | .notE a, S => (evE P ρ a S).bind fun x S1 => match x with
    | .bl b => .ok (.bl (!b)) S1
    | _ => .stuck
  | .andE a b, S => (evE P ρ a S).bind fun x S1 => match x with
    | .bl true => evE P ρ b S1
    | .bl false => .ok (.bl false) S1
    | _ => .stuck
  | .orE a b, S => (evE P ρ a S).bind fun x S1 => match x with
    | .bl true => .ok (.bl true) S1
    | .bl false => evE P ρ b S1
    | _ => .stuck
  | .ite t a b, S => (evE P ρ t S).bind fun x S1 => match x with
    | .bl true => evE P ρ a S1
    | .bl false => evE P ρ b S1
    | _ => .stuck
  | .cmp o a b, S => (evE P ρ a S).bind fun x S1 => (evE P ρ b S1).bind fun y S2 => noExc (opC o (rs ρ x) (rs ρ y) S2)
  | .chain o o' a b c, S => (evE P ρ a S).bind fun x S1 => (evE P ρ b S1).bind fun y S2 => (noExc (opC o (rs ρ x) (rs ρ y) S2)).bind fun z S3 => match z with
    | .bl true => (evE P ρ c S3).bind fun w S4 => noExc (opC o' (rs ρ y) (rs ρ w) S4)
    | .bl false => .ok (.bl false) S3
    | _ => .stuck
  | .tup l, S => (evA P ρ l S).bind fun ds S1 => okIf (ds.length ≤ sizeLine ∧ ds.all plainD = true) (.tup ds) S1
  | .call g l, S => (evA P ρ l S).bind fun ds S1 => if (ds.all plainD = true) then P.call g ds S1 else .stuck
  | .mk c l, S => (evA P ρ l S).bind fun ds S1 => if ds.all plainD = true ∧ ds.length = (P.exf c).length then .ok (.obj S1.length) (S1 ++ [some (.exc c ((P.exf c).zip ds).reverse)]) else .stuck
  | .new c g l, S => (evA P ρ l S).bind fun ds S1 => if ds.all plainD = true then (P.mkE g (.obj S1.length :: ds) (S1 ++ [some (.ins c [])])).bind fun v S2 => (match v with
    | .non => .ok (.obj S1.length) S2
    | _ => .stuck) else .stuck
  | .meth c g m o l, S => (evE P ρ o S).bind fun x S1 => match x with
    | .obj n => match S1[n]? with
      | some (some (.ins k fs)) => if k = c ∧ fs.lookup m = none then (evA P ρ l S1).bind fun ds S2 => (if ds.all plainD = true then P.call g (.obj n :: ds) S2 else .stuck) else .stuck
      | _ => .stuck
    | _ => .stuck
  | .bi b l, S => (evA P ρ l S).bind fun ds S1 => noExc (opBi b (ds.map (rs ρ)) S1)
  | .isi a c, S => (evE P ρ a S).bind fun x S1 => match x with
    | .obj n => match S1[n]? with
      | some (some (.exc k _)) => blR (P.isa k c) S1
      | _ => .stuck
    | _ => .stuck
  | .fld c a x, S => (evE P ρ a S).bind fun y S1 => noExc (opFld c x (rs ρ y) S1)
  | .xfl c a x, S => (evE P ρ a S).bind fun y S1 => noExc (opXfl c x (rs ρ y) S1)
  | .ix a i, S => (evE P ρ a S).bind fun x S1 => (evE P ρ i S1).bind fun y S2 => noExc (opIx (rs ρ x) (rs ρ y) S2)
  | e, S => (evL P ρ e S).bind fun ds S1 => .ok (.lst ds) S1
/-- new lists -/
noncomputable def evL (P : PrX) (ρ : List Sl) : Ex → Sto → Res (List D)
  | .lst l, S => (evA P ρ l S).bind fun ds S1 => okIf (ds.length ≤ sizeLine ∧ ds.all plainD = true) ds S1
  | .comp t s c e, S => (evI P ρ s S).bind fun it S1 => compL it.Still (fun x S2 => match asgT t x (wipeS ρ t.slots) with
      | some ρ1 => noExc ((evE P ρ1 c S2).bind fun b S3 => match b with
        | .bl true => (evE P ρ1 e S3).bind fun y S4 => if plainD y = true then .ok (some y) S4 else .stuck
        | .bl false => .ok none S3
        | _ => .stuck)
      | none => .stuck) it.ds [] S1
  | _, _ => .stuck
noncomputable def evA (P : PrX) (ρ : List Sl) : Ex → Sto → Res (List D)
  | .nil, S => .ok [] S
  | .cons a l, S => (evE P ρ a S).bind fun d S1 => (evA P ρ l S1).bind fun ds S2 => .ok (d :: ds) S2
  | _, _ => .stuck
noncomputable def evI (P : PrX) (ρ : List Sl) : Ex → Sto → Res Itb
  | .seq a, S => (evE P ρ a S).bind fun x S1 => match seqIt S1 (rs ρ x) with
    | some it => .ok it S1
    | none => .stuck
  | .rng1 a, S => (evE P ρ a S).bind fun x S1 => match x with
    | .int j => okIf (-(2 ^ 62) ≤ j ∧ j < 2 ^ 62) ⟨intsD 0 j.toNat, none, false⟩ S1
    | _ => .stuck
  | .rng2 a b, S => (evE P ρ a S).bind fun x S1 => (evE P ρ b S1).bind fun y S2 => match x, y with
    | .int i, .int j => okIf (-(2 ^ 62) ≤ i ∧ i < 2 ^ 62 ∧ -(2 ^ 62) ≤ j ∧ j < 2 ^ 62) ⟨intsD i (j - i).toNat, none, false⟩ S2
    | _, _ => .stuck
  | .enum a, S => (evE P ρ a S).bind fun x S1 => match seqOv S1 (rs ρ x) with
    | some ds => (match rs ρ x with | .d (.lst _) => .ok ⟨enumD 0 ds, none, false⟩ S1 | _ => .stuck)
    | none => .stuck
  | _, _ => .stuck
end
section
variable {P : PrX} {ρ : List Sl} {S : Sto}
theorem evE_var {i : Nat} : evE P ρ (.var i) S = (match ρ[i]? with
    | some (.val d) => .ok d S
    | some (.own _) => .ok (.loc i) S
    | _ => .stuck : Res D) := by rw [evE] <;> rfl
theorem evE_con {d : D} : evE P ρ (.con d) S = (.ok d S : Res D) := by rw [evE] <;> rfl
theorem evE_glo {z0 : Str} {d : D} : evE P ρ (.glo z0 d) S = (.ok d S : Res D) := by rw [evE] <;> rfl
theorem evE_bin {o : Bo} {a : Ex} {b : Ex} : evE P ρ (.bin o a b) S = ((evE P ρ a S).bind fun x S1 => (evE P ρ b S1).bind fun y S2 => noExc (opB o (rs ρ x) (rs ρ y) S2) : Res D) := by rw [evE] <;> rfl
theorem evE_neg {a : Ex} : evE P ρ (.neg a) S = ((evE P ρ a S).bind fun x S1 => match x with
    | .int i => .ok (.int (-i)) S1
    | _ => .stuck : Res D) := by rw [evE] <;> rfl
theorem evE_notE {a : Ex} : evE P ρ (.notE a) S = ((evE P ρ a S).bind fun x S1 => match x with
    | .bl b => .ok (.bl (!b)) S1
    | _ => .stuck : Res D) := by rw [evE] <;> rfl
theorem evE_andE {a : Ex} {b : Ex} : evE P ρ (.andE a b) S = ((evE P ρ a S).bind fun x S1 => match x with
    | .bl true => evE P ρ b S1
    | .bl false => .ok (.bl false) S1
    | _ => .stuck : Res D) := by rw [evE] <;> rfl
theorem evE_orE {a : Ex} {b : Ex} : evE P ρ (.orE a b) S = ((evE P ρ a S).bind fun x S1 => match x with
    | .bl true => .ok (.bl true) S1
    | .bl false => evE P ρ b S1
    | _ => .stuck : Res D) := by rw [evE] <;> rfl
theorem evE_ite {t : Ex} {a : Ex} {b : Ex} : evE P ρ (.ite t a b) S = ((evE P ρ t S).bind fun x S1 => match x with
    | .bl true => evE P ρ a S1
    | .bl false => evE P ρ b S1
    | _ => .stuck : Res D) := by rw [evE] <;> rfl
theorem evE_cmp {o : Co} {a : Ex} {b : Ex} : evE P ρ (.cmp o a b) S = ((evE P ρ a S).bind fun x S1 => (evE P ρ b S1).bind fun y S2 => noExc (opC o (rs ρ x) (rs ρ y) S2) : Res D) := by rw [evE] <;> rfl
theorem evE_chain {o : Co} {o' : Co} {a : Ex} {b : Ex} {c : Ex} : evE P ρ (.chain o o' a b c) S = ((evE P ρ a S).bind fun x S1 => (evE P ρ b S1).bind fun y S2 => (noExc (opC o (rs ρ x) (rs ρ y) S2)).bind fun z S3 => match z with
    | .bl true => (evE P ρ c S3).bind fun w S4 => noExc (opC o' (rs ρ y) (rs ρ w) S4)
    | .bl false => .ok (.bl false) S3
    | _ => .stuck : Res D) := by rw [evE] <;> rfl
theorem evE_tup {l : Ex} : evE P ρ (.tup l) S = ((evA P ρ l S).bind fun ds S1 => okIf (ds.length ≤ sizeLine ∧ ds.all plainD = true) (.tup ds) S1 : Res D) := by rw [evE] <;> rfl
theorem evE_call {g : Nat} {l : Ex} : evE P ρ (.call g l) S = ((evA P ρ l S).bind fun ds S1 => if (ds.all plainD = true) then P.call g ds S1 else .stuck : Res D) := by rw [evE] <;> rfl
theorem evE_mk {c : Nat} {l : Ex} : evE P ρ (.mk c l) S = ((evA P ρ l S).bind fun ds S1 => if ds.all plainD = true ∧ ds.length = (P.exf c).length then .ok (.obj S1.length) (S1 ++ [some (.exc c ((P.exf c).zip ds).reverse)]) else .stuck : Res D) := by rw [evE] <;> rfl
theorem evE_new {c : Nat} {g : Nat} {l : Ex} : evE P ρ (.new c g l) S = ((evA P ρ l S).bind fun ds S1 => if ds.all plainD = true then (P.mkE g (.obj S1.length :: ds) (S1 ++ [some (.ins c [])])).bind fun v S2 => (match v with
    | .non => .ok (.obj S1.length) S2
    | _ => .stuck) else .stuck : Res D) := by rw [evE] <;> rfl
theorem evE_meth {c : Nat} {g : Nat} {m : Str} {o : Ex} {l : Ex} : evE P ρ (.meth c g m o l) S = ((evE P ρ o S).bind fun x S1 => match x with
    | .obj n => match S1[n]? with
      | some (some (.ins k fs)) => if k = c ∧ fs.lookup m = none then (evA P ρ l S1).bind fun ds S2 => (if ds.all plainD = true then P.call g (.obj n :: ds) S2 else .stuck) else .stuck
      | _ => .stuck
    | _ => .stuck : Res D) := by rw [evE] <;> rfl
theorem evE_bi {b : Bi} {l : Ex} : evE P ρ (.bi b l) S = ((evA P ρ l S).bind fun ds S1 => noExc (opBi b (ds.map (rs ρ)) S1) : Res D) := by rw [evE] <;> rfl
theorem evE_isi {a : Ex} {c : Ic} : evE P ρ (.isi a c) S = ((evE P ρ a S).bind fun x S1 => match x with
    | .obj n => match S1[n]? with
      | some (some (.exc k _)) => blR (P.isa k c) S1
      | _ => .stuck
    | _ => .stuck : Res D) := by rw [evE] <;> rfl
theorem evE_fld {c : Nat} {a : Ex} {x : Str} : evE P ρ (.fld c a x) S = ((evE P ρ a S).bind fun y S1 => noExc (opFld c x (rs ρ y) S1) : Res D) := by rw [evE] <;> rfl
theorem evE_xfl {c : Nat} {a : Ex} {x : Str} : evE P ρ (.xfl c a x) S = ((evE P ρ a S).bind fun y S1 => noExc (opXfl c x (rs ρ y) S1) : Res D) := by rw [evE] <;> rfl
theorem evE_ix {a : Ex} {i : Ex} : evE P ρ (.ix a i) S = ((evE P ρ a S).bind fun x S1 => (evE P ρ i S1).bind fun y S2 => noExc (opIx (rs ρ x) (rs ρ y) S2) : Res D) := by rw [evE] <;> rfl
theorem evL_lst {l : Ex} : evL P ρ (.lst l) S = ((evA P ρ l S).bind fun ds S1 => okIf (ds.length ≤ sizeLine ∧ ds.all plainD = true) ds S1 : Res (List D)) := by rw [evL] <;> rfl
theorem evL_comp {t : Tg} {s : Ex} {c : Ex} {e : Ex} : evL P ρ (.comp t s c e) S = ((evI P ρ s S).bind fun it S1 => compL it.Still (fun x S2 => match asgT t x (wipeS ρ t.slots) with
      | some ρ1 => noExc ((evE P ρ1 c S2).bind fun b S3 => match b with
        | .bl true => (evE P ρ1 e S3).bind fun y S4 => if plainD y = true then .ok (some y) S4 else .stuck
        | .bl false => .ok none S3
        | _ => .stuck)
      | none => .stuck) it.ds [] S1 : Res (List D)) := by rw [evL] <;> rfl
theorem evA_nil  : evA P ρ (.nil ) S = (.ok [] S : Res (List D)) := by rw [evA] <;> rfl
theorem evA_cons {a : Ex} {l : Ex} : evA P ρ (.cons a l) S = ((evE P ρ a S).bind fun d S1 => (evA P ρ l S1).bind fun ds S2 => .ok (d :: ds) S2 : Res (List D)) := by rw [evA] <;> rfl
theorem evI_seq {a : Ex} : evI P ρ (.seq a) S = ((evE P ρ a S).bind fun x S1 => match seqIt S1 (rs ρ x) with
    | some it => .ok it S1
    | none => .stuck : Res Itb) := by rw [evI] <;> rfl
theorem evI_rng1 {a : Ex} : evI P ρ (.rng1 a) S = ((evE P ρ a S).bind fun x S1 => match x with
    | .int j => okIf (-(2 ^ 62) ≤ j ∧ j < 2 ^ 62) ⟨intsD 0 j.toNat, none, false⟩ S1
    | _ => .stuck : Res Itb) := by rw [evI] <;> rfl
theorem evI_rng2 {a : Ex} {b : Ex} : evI P ρ (.rng2 a b) S = ((evE P ρ a S).bind fun x S1 => (evE P ρ b S1).bind fun y S2 => match x, y with
    | .int i, .int j => okIf (-(2 ^ 62) ≤ i ∧ i < 2 ^ 62 ∧ -(2 ^ 62) ≤ j ∧ j < 2 ^ 62) ⟨intsD i (j - i).toNat, none, false⟩ S2
    | _, _ => .stuck : Res Itb) := by rw [evI] <;> rfl
theorem evI_enum {a : Ex} : evI P ρ (.enum a) S = ((evE P ρ a S).bind fun x S1 => match seqOv S1 (rs ρ x) with
    | some ds => (match rs ρ x with | .d (.lst _) => .ok ⟨enumD 0 ds, none, false⟩ S1 | _ => .stuck)
    | none => .stuck : Res Itb) := by rw [evI] <;> rfl
theorem evE_lst {y0 : Ex} : evE P ρ (.lst y0) S = (evL P ρ (.lst y0) S).bind fun ds S1 => .ok (.lst ds) S1 := by rw [evE] <;> simp
theorem evE_comp {y0 : Tg} {y1 : Ex} {y2 : Ex} {y3 : Ex} : evE P ρ (.comp y0 y1 y2 y3) S = (evL P ρ (.comp y0 y1 y2 y3) S).bind fun ds S1 => .ok (.lst ds) S1 := by rw [evE] <;> simp
end
end Mx
end

section
set_option maxRecDepth 100000
set_option maxHeartbeats 4000000
/-! Mx6: the operations are sound over values. -/
namespace Mx
open PySem PySem.Spec PyProof.Rows L2
section
variable (K : PySem.W.Frag) (ca : Nat → Addr)
def PostV (f : Fm) (B H : Hp) (Q : VK) : Res D → Prop
  | .ok d S' => ∀ f' B' H' v, Gw f B H f' B' H' → Sim K ca f' B' H' S' → Rp K f' B' d v → Q v H'
  | _ => False
def V1 (r : Ov → Sto → Res D) : V → Hp → VK → Prop := fun x H Q => ∃ S f B o, Sim K ca f B H S ∧ RpW K f B H o x ∧ PostV K ca f B H Q (r o S)
def V2 (r : Ov → Ov → Sto → Res D) : R2 := fun x y H Q => ∃ S f B o1 o2, Sim K ca f B H S ∧ RpW K f B H o1 x ∧ RpW K f B H o2 y ∧ PostV K ca f B H Q (r o1 o2 S)
def VN (r : List Ov → Sto → Res D) : List V → Hp → VK → Prop := fun xs H Q => ∃ S f B os, Sim K ca f B H S ∧ Paired (RpW K f B H) os xs ∧ PostV K ca f B H Q (r os S)
end
section
variable {K : PySem.W.Frag} {ca : Nat → Addr} {f f' : Fm} {B B' H H' : Hp} {S S' : Sto} {Q : VK}
theorem PostV.same {d : D} {v : V} (p : PostV K ca f B H Q (.ok d S)) (s : Sim K ca f B H S) (r : Rp K f B d v) : Q v H := p f B H v (.refl ..) s r
theorem postV_okIf {c : Prop} [Decidable c] {d : D} (p : PostV K ca f B H Q (okIf c d S)) : c ∧ PostV K ca f B H Q (.ok d S) := by
  unfold okIf at p
  by_cases h : c
  · rw [if_pos h] at p; exact ⟨h, p⟩
  · rw [if_neg h] at p; exact p.elim
theorem PostV.lst {ds : List D} {vs : List V} {q : Addr} (p : PostV K ca f B H Q (.ok (.lst ds) S)) (s : Sim K ca f B H S) (r : RpA K f B ds vs) (hq : H q = none) : Q (.ref q) (upd H q (.lst vs)) := by
  have g : Gw f B H f (upd B q (.lst vs)) (upd H q (.lst vs)) := .frz hq (s.free hq)
  refine p _ _ _ _ g (s.frz hq) ?_
  simp only [Rp]
  exact ⟨q, vs, rfl, upd_same, r.mono g.fx g.bx⟩
theorem PostV.tup {ds : List D} {vs : List V} {q : Addr} (p : PostV K ca f B H Q (.ok (.tup ds) S)) (s : Sim K ca f B H S) (r : RpA K f B ds vs) (hq : H q = none) : Q (.ref q) (upd H q (.tup vs)) := by
  have g : Gw f B H f (upd B q (.tup vs)) (upd H q (.tup vs)) := .frz hq (s.free hq)
  refine p _ _ _ _ g (s.frz hq) ?_
  simp only [Rp]
  exact ⟨q, vs, rfl, SqT.of upd_same, r.mono g.fx g.bx⟩
theorem seqOv_ok {o : Ov} {v : V} {ds : List D} (s : Sim K ca f B H S) (r : RpW K f B H o v) (e : seqOv S o = some ds) : ∃ a vs, v = .ref a ∧ H a = some (.lst vs) ∧ RpA K f B ds vs := by
  cases o with
  | d d =>
    cases d with
    | lst xs =>
      cases e
      have r : Rp K f B (.lst ds) v := r
      simp only [Rp] at r
      obtain ⟨a, vs, rfl, h, q⟩ := r
      exact ⟨a, vs, rfl, s.ex _ _ h, q⟩
    | obj n =>
      have r : Rp K f B (.obj n) v := r
      simp only [Rp] at r
      obtain ⟨a, ea, rfl⟩ := r
      simp only [seqOv] at e
      split at e
      · rename_i xs h
        cases e
        obtain ⟨_, vs, q, z⟩ := s.live h ea
        exact ⟨a, vs, rfl, q, z⟩
      · cases e
    | _ => cases e
  | o o =>
    cases o with
    | lst xs =>
      cases e
      obtain ⟨a, rfl, _, _, vs, h, q⟩ := r
      exact ⟨a, vs, rfl, h, q⟩
    | _ => cases e
  | bad => exact r.elim
theorem seqRd_ok {o : Ov} {v : V} {ds : List D} (s : Sim K ca f B H S) (r : RpW K f B H o v) (e : seqRd S o = some ds) : ∃ a vs, v = .ref a ∧ SqL K H a vs ∧ RpA K f B ds vs := by
  by_cases hf : ∃ xs, o = .d (.frl xs)
  · obtain ⟨xs, rfl⟩ := hf
    cases e
    have r : Rp K f B (.frl ds) v := r
    simp only [Rp] at r
    obtain ⟨a, vs, rfl, h, q⟩ := r
    exact ⟨a, vs, rfl, s.ex.sqL h, q⟩
  · have e2 : seqOv S o = some ds := by
      unfold seqRd at e
      split at e
      · exact absurd ⟨_, rfl⟩ hf
      · exact e
    obtain ⟨a, vs, rfl, h, q⟩ := seqOv_ok s r e2
    exact ⟨a, vs, rfl, .of h, q⟩
theorem rw_int {o : Ov} {i : Int} {v : V} (r : RpW K f B H (.d (.int i)) v) : v = .int i := by
  have r : Rp K f B (.int i) v := r
  simpa only [Rp] using r
theorem rw_str {i : Str} {v : V} (r : RpW K f B H (.d (.str i)) v) : v = .str i := by
  have r : Rp K f B (.str i) v := r
  simpa only [Rp] using r
theorem rw_bl {i : Bool} {v : V} (r : RpW K f B H (.d (.bl i)) v) : v = .bl i := by
  have r : Rp K f B (.bl i) v := r
  simpa only [Rp] using r
theorem rw_tup {ds : List D} {v : V} (s : Sim K ca f B H S) (r : RpW K f B H (.d (.tup ds)) v) : ∃ a vs, v = .ref a ∧ SqT K H a vs ∧ RpA K f B ds vs := by
  have r : Rp K f B (.tup ds) v := r
  simp only [Rp] at r
  obtain ⟨a, vs, e, h, q⟩ := r
  exact ⟨a, vs, e, s.ex.sqT h, q⟩
/-! ### data as the library's -/
mutual
theorem py_ok (hx : Hx B H) : ∀ (d : D) {v : V} {p : PyData}, Rp K f B d v → toPy d = some p → Dp K H v p
  | .non, _, _, r, e => by
    simp only [Rp] at r; simp only [toPy] at e; cases e; subst r; exact .non
  | .bl b, _, _, r, e => by
    simp only [Rp] at r; simp only [toPy] at e; cases e; subst r; exact .bl b
  | .int b, _, _, r, e => by
    simp only [Rp] at r; simp only [toPy] at e; cases e; subst r; exact .int b
  | .str b, _, _, r, e => by
    simp only [Rp] at r; simp only [toPy] at e; cases e; subst r; exact .str b
  | .lst ds, _, _, r, e => by
    simp only [Rp] at r; simp only [toPy] at e
    obtain ⟨a, vs, rfl, h, q⟩ := r
    cases h1 : toPyA ds with
    | none => rw [h1] at e; cases e
    | some ps =>
      rw [h1] at e; cases e
      exact .lst (.of (hx _ _ h)) (pyA_ok hx ds q h1)
  | .tup ds, _, _, r, e => by
    simp only [Rp] at r; simp only [toPy] at e
    obtain ⟨a, vs, rfl, h, q⟩ := r
    cases h1 : toPyA ds with
    | none => rw [h1] at e; cases e
    | some ps =>
      rw [h1] at e; cases e
      exact .tup (hx.sqT h) (pyA_ok hx ds q h1)
  | .ty _, _, _, _, e => by simp only [toPy] at e; cases e
  | .frl _, _, _, _, e => by simp only [toPy] at e; cases e
  | .dic _, _, _, _, e => by simp only [toPy] at e; cases e
  | .obj _, _, _, _, e => by simp only [toPy] at e; cases e
  | .loc _, _, _, _, e => by simp only [toPy] at e; cases e
theorem pyA_ok (hx : Hx B H) : ∀ (ds : List D) {vs : List V} {ps : List PyData}, RpA K f B ds vs → toPyA ds = some ps → DpAll K H vs ps
  | [], _, _, r, e => by
    simp only [RpA] at r; simp only [toPyA] at e; cases e; subst r; exact .nil
  | d :: ds, _, _, r, e => by
    simp only [RpA] at r; simp only [toPyA] at e
    obtain ⟨v, vs, rfl, r1, r2⟩ := r
    cases h1 : toPy d with
    | none => rw [h1] at e; cases e
    | some p =>
      cases h2 : toPyA ds with
      | none => rw [h1, h2] at e; cases e
      | some ps =>
        rw [h1, h2] at e; cases e
        exact .cons (py_ok hx d r1 h1) (pyA_ok hx ds r2 h2)
end
theorem pyOv_ok {o : Ov} {v : V} {p : PyData} (s : Sim K ca f B H S) (r : RpW K f B H o v) (e : pyOv S o = some p) : Dp K H v p := by
  unfold pyOv at e
  cases h : seqOv S o with
  | some ds =>
    rw [h] at e
    obtain ⟨a, vs, rfl, q, z⟩ := seqOv_ok s r h
    cases h1 : toPyA ds with
    | none => simp [h1] at e
    | some ps =>
      simp [h1] at e
      subst e
      exact .lst (.of q) (pyA_ok s.ex ds z h1)
  | none =>
    rw [h] at e
    cases o with
    | d d => exact py_ok s.ex d r e
    | o _ => cases e
    | bad => cases e
theorem flat_ok {d : D} {v : V} (r : Rp K f B d v) (e : flatD d = true) : flatV v = true := by
  cases d with
  | non => simp only [Rp] at r; subst r; rfl
  | bl b => simp only [Rp] at r; subst r; rfl
  | int b => simp only [Rp] at r; subst r; rfl
  | str b => simp only [Rp] at r; subst r; rfl
  | _ => cases e
theorem eqF_ok {d e : D} {v w : V} (r : Rp K f B d v) (q : Rp K f B e w) (hd : flatD d = true) (he : flatD e = true) : eqV v w = eqF d e := by
  cases d with
  | non => simp only [Rp] at r; subst r; cases e <;> first | (simp only [Rp] at q; subst q; rfl) | cases he
  | bl b => simp only [Rp] at r; subst r; cases e <;> first | (simp only [Rp] at q; subst q; rfl) | cases he
  | int b => simp only [Rp] at r; subst r; cases e <;> first | (simp only [Rp] at q; subst q; rfl) | cases he
  | str b => simp only [Rp] at r; subst r; cases e <;> first | (simp only [Rp] at q; subst q; rfl) | cases he
  | _ => cases hd
theorem flatA_ok : ∀ {ds : List D} {vs : List V}, RpA K f B ds vs → ds.all flatD = true → vs.all flatV = true
  | [], _, r, _ => by simp only [RpA] at r; subst r; rfl
  | d :: ds, _, r, e => by
    simp only [RpA] at r
    obtain ⟨v, vs, rfl, r1, r2⟩ := r
    simp only [List.all_cons, Bool.and_eq_true] at e ⊢
    exact ⟨flat_ok r1 e.1, flatA_ok r2 e.2⟩
theorem inD_ok {x : D} {v : V} (rx : Rp K f B x v) (fx : flatD x = true) : ∀ {ds : List D} {vs : List V}, RpA K f B ds vs → ds.all flatD = true → inV v vs = inD x ds
  | [], _, r, _ => by simp only [RpA] at r; subst r; rfl
  | d :: ds, _, r, e => by
    simp only [RpA] at r
    obtain ⟨w, vs, rfl, r1, r2⟩ := r
    simp only [List.all_cons, Bool.and_eq_true] at e
    have ih := inD_ok rx fx r2 e.2
    unfold inV inD at ih ⊢
    rw [List.any_cons, List.any_cons, ih, eqF_ok r1 rx e.1 fx]
end
section
variable {X : Cx} {ca : Nat → Addr}
theorem opr_add : OpR X (binaryOp .Add) (V2 X.K ca (opB .add)) := by
  intro pins s σ H x y v u Q I rx ry ⟨S, f, B, o1, o2, si, h1, h2, p⟩
  simp only [opB] at p
  split at p
  · cases rw_int (o := .bad) h1; cases rw_int (o := .bad) h2
    exact op_add pins s σ H _ _ v u Q I rx ry ⟨_, _, rfl, rfl, p.same si (by simp only [Rp])⟩
  · cases rw_str h1; cases rw_str h2
    obtain ⟨c, p⟩ := postV_okIf p
    exact op_add_str pins s σ H _ _ v u Q I rx ry ⟨_, _, rfl, rfl, c, p.same si (by simp only [Rp])⟩
  · obtain ⟨a, vs, rfl, q1, z1⟩ := rw_tup si h1
    obtain ⟨b, ws, rfl, q2, z2⟩ := rw_tup si h2
    obtain ⟨⟨c1, c2, c3⟩, p⟩ := postV_okIf p
    refine op_catT pins s σ H _ _ v u Q I rx ry ⟨a, b, vs, ws, rfl, rfl, q1, q2, fun e => ?_, by rw [z1.len, z2.len]; exact c3, fun e => ?_, fun _ q hq => p.tup si (z1.app z2) hq⟩
    · have := z1.len; rw [e] at this; exact c1 (List.length_eq_zero_iff.mp this.symm)
    · have := z2.len; rw [e] at this; exact absurd (List.length_eq_zero_iff.mp this.symm) c2
  · split at p
    · rename_i xs ys e1 e2
      obtain ⟨a, vs, rfl, q1, z1⟩ := seqOv_ok si h1 e1
      obtain ⟨b, ws, rfl, q2, z2⟩ := seqOv_ok si h2 e2
      obtain ⟨c, p⟩ := postV_okIf p
      exact op_cat pins s σ H _ _ v u Q I rx ry ⟨a, b, vs, ws, rfl, rfl, q1, q2, by rw [z1.len, z2.len]; exact c, fun q hq => p.lst si (z1.app z2) hq⟩
    · exact p.elim
theorem opr_sub : OpR X (binaryOp .Sub) (V2 X.K ca (opB .sub)) := by
  intro pins s σ H x y v u Q I rx ry ⟨S, f, B, o1, o2, si, h1, h2, p⟩
  simp only [opB] at p
  split at p
  · cases rw_int (o := .bad) h1; cases rw_int (o := .bad) h2
    exact op_sub pins s σ H _ _ v u Q I rx ry ⟨_, _, rfl, rfl, p.same si (by simp only [Rp])⟩
  · exact p.elim
theorem opr_mul : OpR X (binaryOp .Mult) (V2 X.K ca (opB .mul)) := by
  intro pins s σ H x y v u Q I rx ry ⟨S, f, B, o1, o2, si, h1, h2, p⟩
  simp only [opB] at p
  split at p
  · cases rw_int (o := .bad) h1; cases rw_int (o := .bad) h2
    obtain ⟨⟨c1, c2⟩, p⟩ := postV_okIf p
    exact op_mulX pins s σ H _ _ v u Q I rx ry ⟨_, _, rfl, rfl, mulx_ok c1 c2 (by decide), p.same si (by simp only [Rp])⟩
  · split at p
    · rename_i xs e1
      obtain ⟨a, vs, rfl, q1, z1⟩ := seqOv_ok si h1 e1
      cases rw_int (o := .bad) h2
      obtain ⟨⟨c1, c2, c3⟩, p⟩ := postV_okIf p
      exact op_rep pins s σ H _ _ v u Q I rx ry ⟨a, _, vs, rfl, rfl, q1, c1, c2, by rw [z1.len]; exact c3, fun q hq => p.lst si (z1.rep _) hq⟩
    · exact p.elim
  · exact p.elim
theorem opr_fdiv : OpR X (binaryOp .FloorDiv) (V2 X.K ca (opB .fdiv)) := by
  intro pins s σ H x y v u Q I rx ry ⟨S, f, B, o1, o2, si, h1, h2, p⟩
  simp only [opB] at p
  split at p
  · cases rw_int (o := .bad) h1; cases rw_int (o := .bad) h2
    obtain ⟨⟨c1, c2⟩, p⟩ := postV_okIf p
    exact op_fdivW pins s σ H _ _ v u Q I rx ry ⟨_, _, rfl, rfl, wide_div c1 c2 (by decide) (by decide), p.same si (by simp only [Rp])⟩
  · exact p.elim
theorem opr_mod : OpR X (binaryOp .Mod) (V2 X.K ca (opB .mod)) := by
  intro pins s σ H x y v u Q I rx ry ⟨S, f, B, o1, o2, si, h1, h2, p⟩
  simp only [opB] at p
  split at p
  · cases rw_int (o := .bad) h1; cases rw_int (o := .bad) h2
    obtain ⟨c1, p⟩ := postV_okIf p
    exact op_mod pins s σ H _ _ v u Q I rx ry ⟨_, _, rfl, rfl, c1, p.same si (by simp only [Rp])⟩
  · exact p.elim
theorem opr_pow : OpR X (binaryOp .Pow) (V2 X.K ca (opB .pow)) := by
  intro pins s σ H x y v u Q I rx ry ⟨S, f, B, o1, o2, si, h1, h2, p⟩
  simp only [opB] at p
  split at p
  · cases rw_int (o := .bad) h1; cases rw_int (o := .bad) h2
    obtain ⟨c1, p⟩ := postV_okIf p
    exact op_pow pins s σ H _ _ v u Q I rx ry ⟨_, _, rfl, rfl, c1, p.same si (by simp only [Rp])⟩
  · exact p.elim
def Bo.op : Bo → Operator
  | .add => .Add | .sub => .Sub | .mul => .Mult | .fdiv => .FloorDiv | .mod => .Mod | .pow => .Pow
theorem opr_bin (o : Bo) : OpR X (binaryOp o.op) (V2 X.K ca (opB o)) := by
  cases o with
  | add => exact opr_add
  | sub => exact opr_sub
  | mul => exact opr_mul
  | fdiv => exact opr_fdiv
  | mod => exact opr_mod
  | pow => exact opr_pow
end
end Mx
end

section
set_option maxRecDepth 100000
set_option maxHeartbeats 4000000
/-! Mx7: comparisons, items, built-in functions. -/
namespace Mx
open PySem PySem.Spec PyProof.Rows L2
section
variable {K : PySem.W.Frag} {ca : Nat → Addr} {f f' : Fm} {B B' H H' : Hp} {S S' : Sto} {Q : VK}
theorem postV_blR {b : Option Bool} (p : PostV K ca f B H Q (blR b S)) : ∃ c, b = some c ∧ PostV K ca f B H Q (.ok (.bl c) S) := by
  cases b with
  | none => exact p.elim
  | some c => exact ⟨c, rfl, p⟩
theorem opEq_some {a b : Ov} {c : Bool} (h : opEq a b S = some c) : ∃ p q, pyOv S a = some p ∧ pyOv S b = some q ∧ SeqAt.shaped p = true ∧ SeqAt.shaped q = true ∧ c = PyData.eqv p q := by
  unfold opEq at h
  split at h
  · rename_i p q e1 e2
    split at h
    · rename_i hc
      cases h
      exact ⟨p, q, e1, e2, hc.1, hc.2, rfl⟩
    · cases h
  · cases h
theorem opIn_some {a b : Ov} {c : Bool} {x y : V} (si : Sim K ca f B H S) (h1 : RpW K f B H a x) (h2 : RpW K f B H b y) (h : opIn a b S = some c) :
    ∃ p xs, y = .ref p ∧ (SqL K H p xs ∨ SqT K H p xs) ∧ flatV x = true ∧ xs.all flatV = true ∧ c = inV x xs := by
  unfold opIn at h
  split at h
  · rename_i d
    split at h
    · rename_i ys ey
      split at h
      · rename_i hc
        cases h
        have key : ∃ p vs, y = .ref p ∧ (SqL K H p vs ∨ SqT K H p vs) ∧ RpA K f B ys vs := by
          split at ey
          · cases ey
            obtain ⟨p, vs, e, q, z⟩ := rw_tup si h2
            exact ⟨p, vs, e, .inr q, z⟩
          · obtain ⟨p, vs, e, q, z⟩ := seqOv_ok si h2 ey
            exact ⟨p, vs, e, .inl (.of q), z⟩
        obtain ⟨p, vs, e, q, z⟩ := key
        exact ⟨p, vs, e, q, flat_ok h1 hc.1, flatA_ok z hc.2, (inD_ok h1 hc.1 z hc.2).symm⟩
      · cases h
    · cases h
  · cases h
theorem rw_non_iff {d : D} {v : V} (r : RpW K f B H (.d d) v) : decide (v = .non) = isNonD d := by
  cases d <;> (first
    | (have r : Rp K f B _ v := r; simp only [Rp] at r; subst r; rfl)
    | (have r : Rp K f B _ v := r; simp only [Rp] at r; obtain ⟨_, _, rfl, _⟩ := r; rfl)
    | (have r : Rp K f B _ v := r; simp only [Rp] at r; obtain ⟨_, _, rfl⟩ := r; rfl)
    | (have r : Rp K f B _ v := r; simp only [Rp] at r))
theorem atI_map {ds : List D} {vs : List V} {i : Int} {d : D} (r : RpA K f B ds vs) (h : atI ds i = some d) : ∃ v, atI vs i = some v ∧ Rp K f B d v := by
  unfold atI at h ⊢
  rw [r.len]
  cases e : ixN ds.length i with
  | none => rw [e] at h; cases h
  | some j =>
    rw [e] at h
    obtain ⟨v, e1, e2⟩ := r.get h
    exact ⟨v, e1, e2⟩
end
section
variable {X : Cx} {ca : Nat → Addr}
def Co.op : Co → CmpOp
  | .eq => .Eq | .ne => .NotEq | .lt => .Lt | .le => .LtE | .gt => .Gt | .ge => .GtE | .is => .Is | .isnot => .IsNot | .isin => .In | .notin => .NotIn
theorem twoS_some {a b : Ov} {z : Str × Str} (h : twoS a b = some z) : a = .d (.str z.1) ∧ b = .d (.str z.2) := by
  unfold twoS at h
  split at h
  · cases h; exact ⟨rfl, rfl⟩
  · cases h
theorem rel_none {v : Value} (r : RelV .non v) : v = Value.none := r
theorem opr_cmp (hu : X.A.units + 64 < cLine) (o : Co) : OpR X (compareOp o.op) (V2 X.K ca (opC o)) := by
  intro pins s σ H x y v u Q I rx ry ⟨S, f, B, o1, o2, si, h1, h2, p⟩
  cases o with
  | eq =>
    simp only [opC] at p
    cases hst : twoS o1 o2 with
    | some z =>
      rw [hst] at p
      obtain ⟨rfl, rfl⟩ := twoS_some hst
      cases rw_str h1; cases rw_str h2
      exact op_eq pins s σ H _ _ v u Q I rx ry ⟨rfl, p.same si (by simp only [Rp])⟩
    | none =>
    rw [hst] at p
    obtain ⟨c, e, p⟩ := postV_blR p
    obtain ⟨a, b, e1, e2, s1, s2, rfl⟩ := opEq_some e
    exact op_eqD hu pins s σ H x y v u Q I rx ry ⟨a, b, pyOv_ok si h1 e1, pyOv_ok si h2 e2, s1, s2, p.same si (by simp only [Rp])⟩
  | ne =>
    simp only [opC] at p
    cases hst : twoS o1 o2 with
    | some z =>
      rw [hst] at p
      obtain ⟨rfl, rfl⟩ := twoS_some hst
      cases rw_str h1; cases rw_str h2
      exact op_ne pins s σ H _ _ v u Q I rx ry ⟨rfl, p.same si (by simp only [Rp])⟩
    | none =>
    rw [hst] at p
    obtain ⟨c, e, p⟩ := postV_blR p
    cases h : opEq o1 o2 S with
    | none => rw [h] at e; cases e
    | some c' =>
      rw [h] at e; cases e
      obtain ⟨a, b, e1, e2, s1, s2, rfl⟩ := opEq_some h
      exact op_neD hu pins s σ H x y v u Q I rx ry ⟨a, b, pyOv_ok si h1 e1, pyOv_ok si h2 e2, s1, s2, p.same si (by simp only [Rp])⟩
  | isin =>
    obtain ⟨c, e, p⟩ := postV_blR p
    obtain ⟨q, xs, rfl, z, f1, f2, rfl⟩ := opIn_some si h1 h2 e
    exact op_in_seq pins s σ H x _ v u Q I rx ry ⟨q, xs, rfl, z, f1, f2, p.same si (by simp only [Rp]; rfl)⟩
  | notin =>
    obtain ⟨c, e, p⟩ := postV_blR p
    cases h : opIn o1 o2 S with
    | none => rw [h] at e; cases e
    | some c' =>
      rw [h] at e; cases e
      obtain ⟨q, xs, rfl, z, f1, f2, rfl⟩ := opIn_some si h1 h2 h
      exact op_notIn_seq pins s σ H x _ v u Q I rx ry ⟨q, xs, rfl, z, f1, f2, p.same si (by simp only [Rp]; rfl)⟩
  | is =>
    simp only [opC] at p
    split at p
    · rename_i d
      have e2 : y = .non := by
        have h2 : Rp X.K f B .non y := h2
        simpa only [Rp] using h2
      subst e2
      exact op_isN pins s σ H x _ v u Q I rx ry ⟨rfl, p.same si (by simp only [Rp]; rw [rw_non_iff h1])⟩
    · exact p.elim
  | isnot =>
    simp only [opC] at p
    split at p
    · rename_i d
      have e2 : y = .non := by
        have h2 : Rp X.K f B .non y := h2
        simpa only [Rp] using h2
      subst e2
      exact op_notN pins s σ H x _ v u Q I rx ry ⟨rfl, p.same si (by simp only [Rp]; rw [rw_non_iff h1])⟩
    · exact p.elim
  | lt =>
    simp only [opC] at p
    split at p
    · cases rw_int (o := .bad) h1; cases rw_int (o := .bad) h2
      exact op_lt pins s σ H _ _ v u Q I rx ry ⟨_, _, rfl, rfl, p.same si (by simp only [Rp])⟩
    · exact p.elim
  | le =>
    simp only [opC] at p
    split at p
    · cases rw_int (o := .bad) h1; cases rw_int (o := .bad) h2
      exact op_le pins s σ H _ _ v u Q I rx ry ⟨_, _, rfl, rfl, p.same si (by simp only [Rp])⟩
    · exact p.elim
  | gt =>
    simp only [opC] at p
    split at p
    · cases rw_int (o := .bad) h1; cases rw_int (o := .bad) h2
      exact op_gt pins s σ H _ _ v u Q I rx ry ⟨_, _, rfl, rfl, p.same si (by simp only [Rp])⟩
    · exact p.elim
  | ge =>
    simp only [opC] at p
    split at p
    · cases rw_int (o := .bad) h1; cases rw_int (o := .bad) h2
      exact op_ge pins s σ H _ _ v u Q I rx ry ⟨_, _, rfl, rfl, p.same si (by simp only [Rp])⟩
    · exact p.elim
theorem ixr_ok : IxR X (V2 X.K ca opIx) := by
  intro value slice pins s σ H x y v u Q I rx ry ⟨S, f, B, o1, o2, si, h1, h2, p⟩ hsl
  unfold opIx at p
  split at p
  · rename_i i
    cases rw_int (o := .bad) h2
    split at p
    · rename_i xs
      split at p
      · rename_i d e
        obtain ⟨a, vs, rfl, q, z⟩ := rw_tup si h1
        obtain ⟨w, e1, e2⟩ := atI_map z e
        exact ix_tup value slice pins s σ H _ _ v u Q I rx ry ⟨a, vs, i, w, rfl, rfl, q, e1, p.same si e2⟩ hsl
      · exact p.elim
    · split at p
      · rename_i xs ex
        split at p
        · rename_i d e
          obtain ⟨a, vs, rfl, q, z⟩ := seqRd_ok si h1 ex
          obtain ⟨w, e1, e2⟩ := atI_map z e
          exact ix_list value slice pins s σ H _ _ v u Q I rx ry ⟨a, vs, i, w, rfl, rfl, q, e1, p.same si e2⟩ hsl
        · exact p.elim
      · exact p.elim
  · exact p.elim
end
end Mx
end

section
set_option maxRecDepth 100000
set_option maxHeartbeats 4000000
/-! Mx8: calls of defs, where it is known that no repr is under way (guards). -/
namespace Mx
open PySem PySem.Spec PyProof.Rows L2

/-- the def at g keeps sp at level k -/
structure FnG (P : Program) (w : World) (K : PySem.W.Frag) (mg : Str → Option Value) (base : Heap) (k : Nat) (g : Addr) (fd : FuncData) (ps : List Str) (sp : Sp) : Prop where
  len : ∀ vs H Q E, sp vs H Q E → vs.length = ps.length
  go : ∀ (A : Around) (out : List PySem.Env) (s : Shared) (H : Hp) (args : Args) (us : List Value) (vs : List V) (Q : VK) (E : XK), Room k A → A.guards = some [] → Env0 P w K mg base A out s H →
    BindsTo s fd args (ps.zip us) → Vals vs us → sp vs H Q E → codeAny (model P w) A (.call (.ref g) args) (CR (L2.CX P w) out P w H s Q E) s
section
variable {X : Cx} {k : Nat} {g C : Addr} {fd : FuncData} {ps : List Str} {sp : Sp} {dvs : List V} {ds : List Value} {E : XK} {x m : Str} {p pos apos : Pos} {e o : Expr} {es : List Expr} {ta : TE} {t : TA}
/-- what leaves the callee passes here, at the slots σ -/
def PassG (X : Cx) (E : XK) (σ : L2.St) : Prop := ∀ (pins : List (Addr × Obj)) (H : Hp) (s : Shared) (e : Value) (s' : Shared), Inv X pins σ H s → L2.CX X.prog X.w X.stack H s E e s' → X.xe e s'
theorem passG {W : WX} (tk : Takes X W) {E : XK} {σ : L2.St} (h : ∀ c d H, E c d H → W c d σ H) : PassG X E σ := fun pins H s e s' I c => tk _ _ (XE.of_call I (fun c d H' q => h c d H' q) c)
theorem goG {pins : List (Addr × Obj)} {σ : L2.St} {H : Hp} {s : Shared} {Q : VK} {us : List Value} {vs : List V} (F : FnG X.prog X.w X.K X.mg X.base k g fd ps sp) (hr : Room k X.A) (hg : X.A.guards = some []) (hb : Binds X.K fd ps ds) (hd : Vals dvs ds) (hx : PassG X E σ)
    (I : Inv X pins σ H s) (r : Vals vs us) (h : sp (vs ++ dvs) H Q E) : wpAny (model X.prog X.w) X.A (call (.ref g) us) (EP X pins σ Q) X.xe s := by
  have rr : Vals (vs ++ dvs) (us ++ ds) := Vals.append r hd
  have ll : (us ++ ds).length = ps.length := rr.length.symm.trans (F.len _ _ _ _ h)
  have c := F.go X.A X.stack s H ⟨us, []⟩ (us ++ ds) (vs ++ dvs) Q E hr hg I.env0 (hb s us I.kIn ll) rr h
  refine wpAny_call (codeAny_mono c fun res s' hq => ?_)
  match res, hq with
  | .error e, hq => exact hx pins H s e s' I hq
  | .ok (.ret u), hq => exact I.after hq
  | .ok .next, hq => exact hq.elim
  | .ok .brk, hq => exact hq.elim
  | .ok .cont, hq => exact hq.elim
def tCallG (sp : Sp) (dvs : List V) (E : L2.St → XK) (t : TA) : TE := fun σ H Q => t σ H fun vs H1 => sp (vs ++ dvs) H1 Q (E σ)
theorem pe_callG {E : L2.St → XK} (F : FnG X.prog X.w X.K X.mg X.base k g fd ps sp) (hr : Room k X.A) (hg : X.A.guards = some []) (gx : Gl X x) (mx : X.mg x = some (.ref g)) (kp : PySem.W.keepIn X.K (.ref g) = true) (hb : Binds X.K fd ps ds) (hd : Vals dvs ds)
    (hx : ∀ σ, PassG X (E σ) σ) (ha : PA X (e :: es) t) (nd : (x == ("__debug__" : Str)) = false) (st : starEach (e :: es) X.env = (false, eval e X.env) :: starEach es X.env) (bt : (backTo pos (starEach es X.env)).any (·.1) = false) :
    PE X (.Call (.Name x p) (e :: es) [] pos) (tCallG sp dvs E t) := ⟨fun pins s σ H Q I h =>
  wpAny_Call_Name_kw (ld_glob I gx mx (PySem.W.callWith_K (h₀ := X.base) I.ok.mod.kin kp (thn (ha.run pos pins s σ H _ I h) fun us s1 z => by
    obtain ⟨vs, H1, I1, r, q⟩ := z
    exact ⟨I1.kIn, goG F hr hg hb hd (hx σ) I1 r q⟩) st bt) nd)⟩
theorem pe_callG0 {E : L2.St → XK} (F : FnG X.prog X.w X.K X.mg X.base k g fd ps sp) (hr : Room k X.A) (hg : X.A.guards = some []) (gx : Gl X x) (mx : X.mg x = some (.ref g)) (kp : PySem.W.keepIn X.K (.ref g) = true) (hb : Binds X.K fd ps ds) (hd : Vals dvs ds)
    (hx : ∀ σ, PassG X (E σ) σ) (nd : (x == ("__debug__" : Str)) = false) : PE X (.Call (.Name x p) [] [] pos) (tCallG sp dvs E tNil) := ⟨fun pins s σ H Q I h =>
  wpAny_Call_Name_kw (ld_glob I gx mx (PySem.W.callWith_K0 I.kIn kp (goG (us := []) F hr hg hb hd (hx σ) I .nil h)) nd)⟩
/-- a def's body -/
theorem fn_ofG {P : Program} {w : World} {K : PySem.W.Frag} {mg : Str → Option Value} {base : Heap} {k : Nat} {f : Addr} {name qual : Str} {prm : Arguments} {body : List Stmt} {sc : Scope} {dV kV doc pm cdv ct oc : Value} {an od : Option Addr}
    {osl : Array (Option Value)} {N ps : List Str} {sp : Sp} (lk : K.lookup f = some ⟨oc, od, .func (PySem.W.fnOf name qual prm body sc dV kV doc pm an cdv ct), osl⟩) (hcd : PySem.W.codeIn K cdv qual = true) (S : FnScope N ps sc)
    (len : ∀ vs H Q E, sp vs H Q E → vs.length = ps.length)
    (hbody : ∀ (A : Around) (out : List PySem.Env) (s : Shared) (H : Hp) (vs : List V) (Q : VK) (E : XK), Room k (A.deeper (envOfC qual sc s.heap.objs.size f cdv)) → A.guards = some [] → sp vs H Q E →
      ∃ t, PSs (cxOf (L2.CX P w) P w K mg base N qual sc f cdv A out s H E) body t ∧ t { nx := fun _ H' => Q .non H', rt := Q } (start N vs) H) :
    FnG P w K mg base (k + 1) f (PySem.W.fnOf name qual prm body sc dV kV doc pm an cdv ct) ps sp where
  len := len
  go := fun A out s H args us vs Q E hr gu e0 hb r hsp => by
    have kin : K.In s.heap := e0.mod.kin.keeps fun b o z => (e0.bs b o z).1
    have nol : s.heap.NoLimit := e0.mod.nolimit.keeps fun b o z => (e0.bs b o z).1
    have kd : ∀ y ∈ ps.zip us, sc.names.lookup y.1 = some .local ∨ (sc.names.lookup y.1 = some .cell ∧ ((cellsFrom (s.heap.objs.size + 1) sc.names []).lookup y.1).isSome = true) := by
      rintro ⟨n, v⟩ hy
      exact (S.par n (List.of_mem_zip hy).1).elim .inl fun q => .inr ⟨q, PySem.W.cellsFrom_some _ _ _ (.inl q)⟩
    refine codeAny_call_function hr.depth (kin _ _ lk) rfl S.co S.gen rfl (PySem.W.codeRec_of kin hcd) (hb _ _ _ _ ?_)
    refine wpAny_newFunctionEnv_cells S.kind kd fun env he s1 x => ?_
    subst he
    refine ⟨nol.keeps x.toInCall.keep, codeAny_func ?_⟩
    obtain ⟨t, ht, hq⟩ := hbody A out s H vs Q E (hr.deeper _) gu hsp
    have I0 := inv_start (CX := L2.CX P w) (qual := qual) (f := f) (cd := cdv) (A := A) (E := E) S hr.hd e0 (len _ _ _ _ hsp) r x
    refine wpAny_mono (ht.run [] s1 (start N vs) H _ I0 hq) (fun fl s' hs => ?_) fun _ _ z => z
    match fl, hs with
    | .ret u, hs => obtain ⟨v, σ', H', J, rv, q⟩ := hs; exact ⟨v, H', J.os, J.bare, J.base, J.hok, rv, q⟩
    | .next, hs => obtain ⟨σ', H', J, q⟩ := hs; exact ⟨.non, H', J.os, J.bare, J.base, J.hok, rfl, q⟩
    | .brk, hs => obtain ⟨_, _, _, q⟩ := hs; exact q.elim
    | .cont, hs => obtain ⟨_, _, _, q⟩ := hs; exact q.elim
end
/-! ### repr -/
section
variable {X : Cx} {ca : Nat → Addr}
theorem call_reprG (hg : X.A.guards = some []) : CallR X (.builtin "repr") (fun xs H Q => ∃ a d, xs = [.ref a] ∧ Dp X.K H (.ref a) d ∧ d.showable = true ∧ d.hasDict = false ∧ X.A.units + (d.depth + 1) < cLine ∧ d.shown.length ≤ sizeLine ∧ Q (.str d.shown) H) := by
  intro pins s σ H xs us Q I r h
  obtain ⟨a, d, rfl, hd, h1, h2, h3, h4, q⟩ := h
  obtain ⟨u, rfl, ru⟩ := vals1 r
  cases ru
  obtain ⟨as, rd⟩ := Dp.reads I d _ _ hd rfl
  refine repr_of_reads' rd h1 (PyData.noDict_hsm h2) hg h3 (fun _ _ e => e) (fun h' u tk hk => ⟨.str d.shown, H, I.kept hk, ⟨_, rfl⟩, q⟩) h4
end
end Mx
end

section
set_option maxRecDepth 100000
set_option maxHeartbeats 4000000
/-! Mx9: the evaluator's expressions are sound, construct by construct. -/
namespace Mx
open PySem PySem.Spec PyProof.Rows L2
section
variable {K : PySem.W.Frag} {ca : Nat → Addr} {W : WX} {f f' : Fm} {B B' H H' : Hp} {ρ : List Sl} {σ : L2.St} {S S' : Sto} {Q : VK}
theorem Post.noExcV {d : Res D} (p : Post K ca W (RX K ρ) σ f B H Q (noExc d)) : PostV K ca f B H Q d := by
  cases d with
  | ok d S' => exact fun f' B' H' v g s r => p f' B' H' v g s r.x
  | exc c fs S' => exact p
  | stuck => exact p
theorem PostV.imp {d : Res D} {Q' : VK} (h : ∀ v H', Q v H' → Q' v H') (p : PostV K ca f B H Q d) : PostV K ca f B H Q' d := by
  cases d with
  | ok d S' => exact fun f' B' H' v g s r => h _ _ (p f' B' H' v g s r)
  | exc c fs S' => exact p
  | stuck => exact p
/-- the state behind a first part -/
structure Bh (K : PySem.W.Frag) (ca : Nat → Addr) (ρ : List Sl) (σ : L2.St) (S : Sto) (f : Fm) (B H : Hp) (d : D) (v : V) : Prop where
  at_ : At K ca ρ S f B σ H
  r : RpX K f B H ρ d v
theorem rdE.of {r r' : List Sl → Sto → Res D} (e : ∀ ρ S, r ρ S = r' ρ S) (h : rdE K ca W r σ H Q) : rdE K ca W r' σ H Q := by
  have : r = r' := funext fun ρ => funext fun S => e ρ S
  rw [← this]; exact h
theorem rdE.bind {r : List Sl → Sto → Res D} {k : List Sl → D → Sto → Res D} (h : rdE K ca W (fun ρ S => (r ρ S).bind (k ρ)) σ H Q) :
    rdE K ca W r σ H (fun v H1 => ∃ ρ S f B d, Bh K ca ρ σ S f B H1 d v ∧ Post K ca W (RX K ρ) σ f B H1 Q (k ρ d S)) := by
  obtain ⟨ρ, S, f, B, a, p⟩ := h
  exact ⟨ρ, S, f, B, a, p.bind.imp fun v H1 ⟨d, S1, f1, B1, g, s, r, q⟩ => ⟨ρ, S1, f1, B1, d, ⟨a.gw g s, r⟩, q⟩⟩
theorem rdE.bindT {r : List Sl → Sto → Res D} {k : List Sl → D → Sto → Res Bool} {Q : Bool → Hp → Prop} (h : rdT K ca W (fun ρ S => (r ρ S).bind (k ρ)) σ H Q) :
    rdE K ca W r σ H (fun v H1 => ∃ ρ S f B d, Bh K ca ρ σ S f B H1 d v ∧ Post K ca W RB σ f B H1 Q (k ρ d S)) := by
  obtain ⟨ρ, S, f, B, a, p⟩ := h
  exact ⟨ρ, S, f, B, a, p.bind.imp fun v H1 ⟨d, S1, f1, B1, g, s, r, q⟩ => ⟨ρ, S1, f1, B1, d, ⟨a.gw g s, r⟩, q⟩⟩
theorem two {ra rb : List Sl → Sto → Res D} {r2 : Ov → Ov → Sto → Res D} (h : rdE K ca W (fun ρ S => (ra ρ S).bind fun x S1 => (rb ρ S1).bind fun y S2 => noExc (r2 (rs ρ x) (rs ρ y) S2)) σ H Q) :
    rdE K ca W ra σ H (fun x H1 => rdE K ca W rb σ H1 (fun y H2 => V2 K ca r2 x y H2 Q)) := by
  obtain ⟨ρ, S, f, B, a, p⟩ := h
  refine ⟨ρ, S, f, B, a, p.bind.imp fun v H1 ⟨d, S1, f1, B1, g, s, r, q⟩ => ?_⟩
  refine ⟨ρ, S1, f1, B1, a.gw g s, q.bind.imp fun u H2 ⟨e, S2, f2, B2, g2, s2, r2, q2⟩ => ?_⟩
  exact ⟨S2, f2, B2, _, _, s2, r.gw g2, r2, q2.noExcV⟩
theorem one {ra : List Sl → Sto → Res D} {r1 : Ov → Sto → Res D} (h : rdE K ca W (fun ρ S => (ra ρ S).bind fun x S1 => noExc (r1 (rs ρ x) S1)) σ H Q) :
    rdE K ca W ra σ H (fun x H1 => V1 K ca r1 x H1 Q) := by
  obtain ⟨ρ, S, f, B, a, p⟩ := h
  exact ⟨ρ, S, f, B, a, p.bind.imp fun v H1 ⟨d, S1, f1, B1, g, s, r, q⟩ => ⟨S1, f1, B1, _, s, r, q.noExcV⟩⟩
theorem paired_map {K : PySem.W.Frag} {f : Fm} {B H : Hp} {ρ : List Sl} : ∀ {ds : List D} {vs : List V}, Paired (fun d v => RpX K f B H ρ d v) ds vs → Paired (RpW K f B H) (ds.map (rs ρ)) vs
  | _, _, .nil => .nil
  | _, _, .cons h t => .cons h (paired_map t)
theorem many {ra : List Sl → Sto → Res (List D)} {rN : List Ov → Sto → Res D} (h : rdE K ca W (fun ρ S => (ra ρ S).bind fun x S1 => noExc (rN (x.map (rs ρ)) S1)) σ H Q) :
    rdA K ca W ra σ H (fun xs H1 => VN K ca rN xs H1 Q) := by
  obtain ⟨ρ, S, f, B, a, p⟩ := h
  refine ⟨ρ, S, f, B, a, p.bind.imp fun v H1 ⟨d, S1, f1, B1, g, s, r, q⟩ => ⟨S1, f1, B1, _, s, ?_, q.noExcV⟩⟩
  exact paired_map r
end
section
variable {X : Cx} {ca : Nat → Addr} {W : WX} {P : PrX} {a b c : Ex} {ea eb ec : Expr} {pos : Pos}
abbrev RE (X : Cx) (ca : Nat → Addr) (W : WX) (P : PrX) (e : Ex) : TE := rdE X.K ca W (fun ρ S => evE P ρ e S)
abbrev RA (X : Cx) (ca : Nat → Addr) (W : WX) (P : PrX) (e : Ex) : TA := rdA X.K ca W (fun ρ S => evA P ρ e S)
noncomputable def evT (P : PrX) (ρ : List Sl) (e : Ex) (S : Sto) : Res Bool := (evE P ρ e S).bind asB
abbrev RT (X : Cx) (ca : Nat → Addr) (W : WX) (P : PrX) (e : Ex) : TT := rdT X.K ca W (fun ρ S => evT P ρ e S)
theorem se_var {i : Nat} {x : Str} (hN : X.N[i]? = some x) (hv : Vis X.env.scope x) (h1 : (x == ("__debug__" : Str)) = false) (h2 : (x == ("__classdict__" : Str)) = false) : PE X (.Name x pos) (RE X ca W P (.var i)) :=
  (pe_var hN hv h1 h2).imp fun σ H Q ⟨ρ, S, f, B, a, p⟩ => by
    simp only [evE_var] at p
    split at p
    · rename_i d e
      obtain ⟨v, e1, r⟩ := a.en.val i d e
      exact ⟨v, e1, p f B H v (.refl ..) a.si r.x⟩
    · rename_i o e
      obtain ⟨x, e1, r⟩ := a.en.own i o e
      refine ⟨.ref x, e1, p f B H _ (.refl ..) a.si ?_⟩
      show RpW X.K f B H (rs ρ (.loc i)) (.ref x)
      have e2 : rs ρ (.loc i) = .o o := by unfold rs; simp only [e]
      rw [e2]
      exact ⟨x, rfl, r⟩
    · exact p.elim
/-- a constant's datum -/
def conV : D → Option V
  | .non => some .non | .bl b => some (.bl b) | .int i => some (.int i) | .str s => some (.str s)
  | _ => none
theorem se_con {d : D} {v : V} (hv : conV d = some v) {e : Expr} (he : PE X e (tC v)) : PE X e (RE X ca W P (.con d)) :=
  he.imp fun σ H Q ⟨ρ, S, f, B, a, p⟩ => by
    simp only [evE_con] at p
    refine p f B H v (.refl ..) a.si (Rp.x ?_)
    cases d <;> (first | (cases hv; simp only [Rp]) | cases hv)
theorem se_glo {x : Str} {d : D} {e : Expr} {v : V} (he : PE X e (tC v)) (r : ∀ f B, Rp X.K f B d v) : PE X e (RE X ca W P (.glo x d)) :=
  he.imp fun σ H Q ⟨ρ, S, f, B, a, p⟩ => by
    simp only [evE_glo] at p
    exact p f B H v (.refl ..) a.si (Rp.x (r f B))
theorem se_bin {o : Bo} (ha : PE X ea (RE X ca W P a)) (hb : PE X eb (RE X ca W P b)) : PE X (.BinOp ea o.op eb pos) (RE X ca W P (.bin o a b)) :=
  (pe_op (opr_bin (ca := ca) o) ha hb).imp fun σ H Q h => two (h.of fun ρ S => evE_bin)
theorem se_cmp {o : Co} (hu : X.A.units + 64 < cLine) (ha : PE X ea (RE X ca W P a)) (hb : PE X eb (RE X ca W P b)) (hm : behindInMarks o.op eb = false) : PE X (.Compare ea [o.op] [eb] pos) (RE X ca W P (.cmp o a b)) :=
  (pe_cmpR (opr_cmp (ca := ca) hu o) ha hb hm).imp fun σ H Q h => two (h.of fun ρ S => evE_cmp)
theorem se_ix (ha : PE X ea (RE X ca W P a)) (hb : PE X eb (RE X ca W P b)) (hs : PlainIx eb) : PE X (.Subscript ea eb pos) (RE X ca W P (.ix a b)) :=
  (pe_ix (ixr_ok (ca := ca)) ha hb hs).imp fun σ H Q h => two (h.of fun ρ S => evE_ix)
theorem se_neg (ha : PE X ea (RE X ca W P a)) : PE X (.UnaryOp .USub ea pos) (RE X ca W P (.neg a)) :=
  (pe_un un_neg ha).imp fun σ H Q h => by
    have h := rdE.bind (r := fun ρ S => evE P ρ a S) (k := fun ρ x S1 => match x with | .int i => .ok (.int (-i)) S1 | _ => .stuck) (h.of fun ρ S => evE_neg)
    obtain ⟨ρ, S, f, B, at_, p⟩ := h
    refine ⟨ρ, S, f, B, at_, p.imp fun v H1 ⟨ρ1, S1, f1, B1, d, b, q⟩ => ?_⟩
    cases d with
    | int i =>
      have e : v = .int i := by have r : Rp X.K f1 B1 (.int i) v := b.r; simpa only [Rp] using r
      subst e
      exact ⟨i, rfl, q f1 B1 H1 _ (.refl ..) b.at_.si (Rp.x (by simp only [Rp]))⟩
    | _ => exact q.elim
/-- a bool that was evaluated -/
theorem bh_bl {K : PySem.W.Frag} {ρ : List Sl} {σ : L2.St} {S : Sto} {f : Fm} {B H : Hp} {k : Bool} {v : V} (b : Bh K ca ρ σ S f B H (.bl k) v) : v = .bl k := by
  have r : Rp K f B (.bl k) v := b.r
  simpa only [Rp] using r
theorem se_not (ha : PE X ea (RE X ca W P a)) : PE X (.UnaryOp .Not ea pos) (RE X ca W P (.notE a)) :=
  (pe_not ha).imp fun σ H Q h => by
    have h := rdE.bind (r := fun ρ S => evE P ρ a S) (k := fun ρ x S1 => match x with | .bl i => .ok (.bl (!i)) S1 | _ => .stuck) (h.of fun ρ S => evE_notE)
    obtain ⟨ρ, S, f, B, at_, p⟩ := h
    refine ⟨ρ, S, f, B, at_, p.imp fun v H1 ⟨ρ1, S1, f1, B1, d, b, q⟩ => ?_⟩
    cases d with
    | bl i =>
      cases bh_bl b
      exact ⟨i, rfl, q f1 B1 H1 _ (.refl ..) b.at_.si (Rp.x (by simp only [Rp]))⟩
    | _ => exact q.elim
theorem se_and {rest : List Expr} (ha : PE X ea (RE X ca W P a)) (hb : PE X (.BoolOp .And (eb :: rest) pos) (RE X ca W P b)) : PE X (.BoolOp .And (ea :: eb :: rest) pos) (RE X ca W P (.andE a b)) :=
  (pe_and ha hb).imp fun σ H Q h => by
    have h := rdE.bind (r := fun ρ S => evE P ρ a S) (k := fun ρ x S1 => match x with | .bl true => evE P ρ b S1 | .bl false => .ok (.bl false) S1 | _ => .stuck) (h.of fun ρ S => evE_andE)
    obtain ⟨ρ, S, f, B, at_, p⟩ := h
    refine ⟨ρ, S, f, B, at_, p.imp fun v H1 ⟨ρ1, S1, f1, B1, d, b, q⟩ => ?_⟩
    cases d with
    | bl k =>
      cases bh_bl b
      cases k with
      | true => exact ⟨true, rfl, by rw [if_pos rfl]; exact ⟨ρ1, S1, f1, B1, b.at_, q⟩⟩
      | false => exact ⟨false, rfl, by rw [if_neg Bool.false_ne_true]; exact q f1 B1 H1 _ (.refl ..) b.at_.si (Rp.x (by simp only [Rp]))⟩
    | _ => exact q.elim
theorem se_or {rest : List Expr} (ha : PE X ea (RE X ca W P a)) (hb : PE X (.BoolOp .Or (eb :: rest) pos) (RE X ca W P b)) : PE X (.BoolOp .Or (ea :: eb :: rest) pos) (RE X ca W P (.orE a b)) :=
  (pe_or ha hb).imp fun σ H Q h => by
    have h := rdE.bind (r := fun ρ S => evE P ρ a S) (k := fun ρ x S1 => match x with | .bl true => .ok (.bl true) S1 | .bl false => evE P ρ b S1 | _ => .stuck) (h.of fun ρ S => evE_orE)
    obtain ⟨ρ, S, f, B, at_, p⟩ := h
    refine ⟨ρ, S, f, B, at_, p.imp fun v H1 ⟨ρ1, S1, f1, B1, d, b, q⟩ => ?_⟩
    cases d with
    | bl k =>
      cases bh_bl b
      cases k with
      | true => exact ⟨true, rfl, by rw [if_pos rfl]; exact q f1 B1 H1 _ (.refl ..) b.at_.si (Rp.x (by simp only [Rp]))⟩
      | false => exact ⟨false, rfl, by rw [if_neg Bool.false_ne_true]; exact ⟨ρ1, S1, f1, B1, b.at_, q⟩⟩
    | _ => exact q.elim
theorem se_ite (hc : PT X ec (RT X ca W P c)) (ha : PE X ea (RE X ca W P a)) (hb : PE X eb (RE X ca W P b)) : PE X (.IfExp ec ea eb pos) (RE X ca W P (.ite c a b)) :=
  (pe_ifExp hc ha hb).imp fun σ H Q ⟨ρ, S, f, B, at_, p⟩ => by
    simp only [evE_ite] at p
    refine ⟨ρ, S, f, B, at_, ?_⟩
    show Post _ _ _ _ _ _ _ _ _ ((evE P ρ c S).bind asB)
    cases hr : evE P ρ c S with
    | ok d S1 =>
      rw [hr] at p
      rw [Res.bind_ok] at p ⊢
      cases d with
      | bl k =>
        cases k with
        | true => exact fun f1 B1 H1 v g s e => by cases e; rw [if_pos rfl]; exact ⟨ρ, S1, f1, B1, at_.gw g s, Post.gw g p⟩
        | false => exact fun f1 B1 H1 v g s e => by cases e; rw [if_neg Bool.false_ne_true]; exact ⟨ρ, S1, f1, B1, at_.gw g s, Post.gw g p⟩
      | _ => exact p.elim
    | exc k fs S1 => rw [hr] at p; exact p
    | stuck => rw [hr] at p; exact p
/-! ### tests -/
theorem st_val (ha : PE X ea (RE X ca W P a)) (he : ∀ whole, isTrue ea X.env whole = (do let v ← whole; standAt ea.pos; holding [v] (truthy v))) : PT X ea (RT X ca W P a) :=
  (pt_val ha he).imp fun σ H Q h => by
    have h := rdE.bindT (r := fun ρ S => evE P ρ a S) (k := fun ρ => asB) h
    obtain ⟨ρ, S, f, B, at_, p⟩ := h
    refine ⟨ρ, S, f, B, at_, p.imp fun v H1 ⟨ρ1, S1, f1, B1, d, b, q⟩ => ?_⟩
    cases d with
    | bl i =>
      cases bh_bl b
      exact ⟨i, rfl, q f1 B1 H1 _ (.refl ..) b.at_.si rfl⟩
    | _ => exact q.elim
theorem st_cmp {o : Co} (hu : X.A.units + 64 < cLine) (ha : PE X ea (RE X ca W P a)) (hb : PE X eb (RE X ca W P b)) (hm : behindInMarks o.op eb = false) : PT X (.Compare ea [o.op] [eb] pos) (RT X ca W P (.cmp o a b)) :=
  (pt_cmpR (opr_cmp (ca := ca) hu o) ha hb hm).imp fun σ H Q ⟨ρ, S, f, B, at_, p⟩ => by
    unfold evT at p
    refine two (W := W) ⟨ρ, S, f, B, at_, ?_⟩
    have p := p.bind (R := RX X.K ρ)
    simp only [evE_cmp] at p
    refine p.imp fun v H1 ⟨d, S1, f1, B1, g, s, r, q⟩ => ?_
    cases d with
    | bl i =>
      have e : v = .bl i := by have r : Rp X.K f1 B1 (.bl i) v := r; simpa only [Rp] using r
      exact ⟨i, e, q f1 B1 H1 _ (.refl ..) s rfl⟩
    | _ => exact q.elim
/-- tests: and, or, not -/
theorem rdT.of {r r' : List Sl → Sto → Res Bool} {K : PySem.W.Frag} {σ : L2.St} {H : Hp} {Q : Bool → Hp → Prop} (e : ∀ ρ S, r ρ S = r' ρ S) (h : rdT K ca W r σ H Q) : rdT K ca W r' σ H Q := by
  have : r = r' := funext fun ρ => funext fun S => e ρ S
  rw [← this]; exact h
theorem rdT.bind {r : List Sl → Sto → Res Bool} {k : List Sl → Bool → Sto → Res Bool} {K : PySem.W.Frag} {σ : L2.St} {H : Hp} {Q : Bool → Hp → Prop} (h : rdT K ca W (fun ρ S => (r ρ S).bind (k ρ)) σ H Q) :
    rdT K ca W r σ H (fun b H1 => ∃ ρ S f B, At K ca ρ S f B σ H1 ∧ Post K ca W RB σ f B H1 Q (k ρ b S)) := by
  obtain ⟨ρ, S, f, B, a, p⟩ := h
  exact ⟨ρ, S, f, B, a, p.bind.imp fun v H1 ⟨d, S1, f1, B1, g, s, r, q⟩ => by cases r; exact ⟨ρ, S1, f1, B1, a.gw g s, q⟩⟩
theorem evT_and (ρ : List Sl) (S : Sto) : evT P ρ (.andE a b) S = (evT P ρ a S).bind fun k S1 => if k = true then evT P ρ b S1 else .ok false S1 := by
  unfold evT
  rw [evE_andE]
  cases evE P ρ a S with
  | ok d S1 => cases d with
    | bl k => cases k <;> rfl
    | _ => rfl
  | exc c fs S1 => rfl
  | stuck => rfl
theorem evT_or (ρ : List Sl) (S : Sto) : evT P ρ (.orE a b) S = (evT P ρ a S).bind fun k S1 => if k = true then .ok true S1 else evT P ρ b S1 := by
  unfold evT
  rw [evE_orE]
  cases evE P ρ a S with
  | ok d S1 => cases d with
    | bl k => cases k <;> rfl
    | _ => rfl
  | exc c fs S1 => rfl
  | stuck => rfl
theorem evT_not (ρ : List Sl) (S : Sto) : evT P ρ (.notE a) S = (evT P ρ a S).bind fun k S1 => .ok (!k) S1 := by
  unfold evT
  rw [evE_notE]
  cases evE P ρ a S with
  | ok d S1 => cases d with
    | bl k => cases k <;> rfl
    | _ => rfl
  | exc c fs S1 => rfl
  | stuck => rfl
theorem st_not (ha : PT X ea (RT X ca W P a)) : PT X (.UnaryOp .Not ea pos) (RT X ca W P (.notE a)) :=
  (pt_not ha).imp fun σ H Q h => by
    have h := rdT.bind (r := fun ρ S => evT P ρ a S) (k := fun _ k S1 => .ok (!k) S1) (h.of fun ρ S => evT_not ρ S)
    obtain ⟨ρ, S, f, B, at_, p⟩ := h
    exact ⟨ρ, S, f, B, at_, p.imp fun v H1 ⟨ρ1, S1, f1, B1, b, q⟩ => q f1 B1 H1 _ (.refl ..) b.si rfl⟩
theorem rdT.and {σ : L2.St} {H : Hp} {Q : Bool → Hp → Prop} (h : RT X ca W P (.andE a b) σ H Q) : tAnd (RT X ca W P a) (RT X ca W P b) σ H Q := by
  have h := rdT.bind (r := fun ρ S => evT P ρ a S) (k := fun ρ k S1 => if k = true then evT P ρ b S1 else .ok false S1) (h.of fun ρ S => evT_and ρ S)
  obtain ⟨ρ, S, f, B, at_, p⟩ := h
  refine ⟨ρ, S, f, B, at_, p.imp fun v H1 ⟨ρ1, S1, f1, B1, b, q⟩ => ?_⟩
  cases v with
  | true => exact ⟨ρ1, S1, f1, B1, b, q⟩
  | false => exact q f1 B1 H1 _ (.refl ..) b.si rfl
theorem rdT.or {σ : L2.St} {H : Hp} {Q : Bool → Hp → Prop} (h : RT X ca W P (.orE a b) σ H Q) : tOr (RT X ca W P a) (RT X ca W P b) σ H Q := by
  have h := rdT.bind (r := fun ρ S => evT P ρ a S) (k := fun ρ k S1 => if k = true then .ok true S1 else evT P ρ b S1) (h.of fun ρ S => evT_or ρ S)
  obtain ⟨ρ, S, f, B, at_, p⟩ := h
  refine ⟨ρ, S, f, B, at_, p.imp fun v H1 ⟨ρ1, S1, f1, B1, b, q⟩ => ?_⟩
  cases v with
  | true => exact q f1 B1 H1 _ (.refl ..) b.si rfl
  | false => exact ⟨ρ1, S1, f1, B1, b, q⟩
theorem _root_.L2.PW.imp {X : Cx} {e : Expr} {t t' : TT} (h : PW X e t) (i : ∀ σ H Q, t' σ H Q → t σ H Q) : PW X e t' := ⟨fun wh pins s σ H Q I q => h.run wh pins s σ H Q I (i σ H Q q)⟩
theorem sw_and {rest : List Expr} (ha : PT X ea (RT X ca W P a)) (hb : PW X (.BoolOp .And (eb :: rest) pos) (RT X ca W P b)) : PW X (.BoolOp .And (ea :: eb :: rest) pos) (RT X ca W P (.andE a b)) :=
  (pw_and ha hb).imp fun _ _ _ h => rdT.and h
theorem sw_or {rest : List Expr} (ha : PT X ea (RT X ca W P a)) (hb : PW X (.BoolOp .Or (eb :: rest) pos) (RT X ca W P b)) : PW X (.BoolOp .Or (ea :: eb :: rest) pos) (RT X ca W P (.orE a b)) :=
  (pw_or ha hb).imp fun _ _ _ h => rdT.or h
/-! ### arguments, displays -/
theorem sa_nil : PA X [] (RA X ca W P .nil) := pa_nil.imp fun σ H Q ⟨ρ, S, f, B, a, p⟩ => by
  simp only [evA_nil] at p
  exact p f B H [] (.refl ..) a.si .nil
theorem sa_cons {es : List Expr} (ha : PE X ea (RE X ca W P a)) (hb : PA X es (RA X ca W P b)) (hs : starEach (ea :: es) X.env = (false, eval ea X.env) :: starEach es X.env) : PA X (ea :: es) (RA X ca W P (.cons a b)) :=
  (pa_cons ha hb hs).imp fun σ H Q ⟨ρ, S, f, B, at_, p⟩ => by
    simp only [evA_cons] at p
    refine ⟨ρ, S, f, B, at_, p.bind.imp fun v H1 ⟨d, S1, f1, B1, g, s, r, q⟩ => ?_⟩
    refine ⟨ρ, S1, f1, B1, at_.gw g s, q.bind.imp fun vs H2 ⟨ds, S2, f2, B2, g2, s2, r2, q2⟩ => ?_⟩
    exact q2 f2 B2 H2 _ (.refl ..) s2 (.cons (r.gw g2) r2)
theorem plain_d {ρ : List Sl} {d : D} (h : plainD d = true) : rs ρ d = .d d := rs_nloc fun i e => by subst e; cases h
theorem paired_rpA {K : PySem.W.Frag} {f : Fm} {B H : Hp} {ρ : List Sl} : ∀ {ds : List D} {vs : List V}, Paired (fun d v => RpX K f B H ρ d v) ds vs → ds.all plainD = true → RpA K f B ds vs
  | _, _, .nil, _ => by simp only [RpA]
  | _, _, .cons h t, e => by
    simp only [List.all_cons, Bool.and_eq_true] at e
    simp only [RpA]
    refine ⟨_, _, rfl, ?_, paired_rpA t e.2⟩
    unfold RpX at h
    rw [plain_d e.1] at h
    exact h
theorem RXs.rpA {K : PySem.W.Frag} {f : Fm} {B H : Hp} {ρ : List Sl} {ds : List D} {vs : List V} (r : RXs K ρ f B H ds vs) (e : ds.all plainD = true) : RpA K f B ds vs := paired_rpA r e
theorem Post.okIf {α β : Type} {K : PySem.W.Frag} {f : Fm} {B H : Hp} {σ : L2.St} {R : Fm → Hp → Hp → α → β → Prop} {Q : β → Hp → Prop} {c : Prop} [Decidable c] {d : α} {S : Sto} (p : Post K ca W R σ f B H Q (okIf c d S)) : c ∧ Post K ca W R σ f B H Q (.ok d S) := by
  unfold Mx.okIf at p
  by_cases h : c
  · rw [if_pos h] at p; exact ⟨h, p⟩
  · rw [if_neg h] at p; exact p.elim
theorem se_tup {x1 : Nat} {es : List Expr} (ha : PA X es (RA X ca W P a)) : PE X (.Tuple es x1 pos) (RE X ca W P (.tup a)) :=
  (pe_tup ha).imp fun σ H Q ⟨ρ, S, f, B, at_, p⟩ => by
    simp only [evE_tup] at p
    refine ⟨ρ, S, f, B, at_, p.bind.imp fun vs H1 ⟨ds, S1, f1, B1, g, s, r, q⟩ => ?_⟩
    obtain ⟨⟨c1, c2⟩, q⟩ := q.okIf
    have rA := RXs.rpA r c2
    refine ⟨by rw [rA.len]; exact c1, fun p hp => ?_⟩
    have g2 : Gw f1 B1 H1 f1 (upd B1 p (.tup vs)) (upd H1 p (.tup vs)) := .frz hp (s.free hp)
    refine q _ _ _ _ g2 (s.frz hp) (Rp.x ?_)
    simp only [Rp]
    exact ⟨p, vs, rfl, SqT.of upd_same, rA.mono g2.fx g2.bx⟩
end
end Mx
end

section
set_option maxRecDepth 100000
set_option maxHeartbeats 4000000
/-! Mx10: new lists, iterables, comprehensions. -/
namespace Mx
open PySem PySem.Spec PyProof.Rows L2
section
variable (K : PySem.W.Frag) (ca : Nat → Addr) (W : WX)
def PostL (σ : L2.St) (f : Fm) (B H : Hp) (Q : VK) : Res (List D) → Prop
  | .ok ds S' => ∀ f' B' H' p vs, Gw f B H f' B' H' → Sim K ca f' B' H' S' → H p = none → B' p = none → (∀ n, f' n ≠ some p) → H' p = some (.lst vs) → RpA K f' B' ds vs → Q (.ref p) H'
  | .exc c fs S' => ∀ f' B' H' dd, Gw f B H f' B' H' → Sim K ca f' B' H' S' → Xd K f' B' H' fs dd → W (.ref (ca c)) dd σ H'
  | .stuck => False
def rdL (r : List Sl → Sto → Res (List D)) : TE := fun σ H Q => ∃ ρ S f B, At K ca ρ S f B σ H ∧ PostL K ca W σ f B H Q (r ρ S)
/-- weak growth: what stays known over statements -/
structure Wg (f : Fm) (B H : Hp) (f' : Fm) (B' H' : Hp) : Prop where
  fx : Fx f f'
  bx : Hx B B'
/-- J walks the items of it -/
def Wk (T : Fm → Hp → Hp → Fm → Hp → Hp → Prop) (it : Itb) (J : It) (f0 : Fm) (B0 H0 : Hp) : Prop := ∀ f B H S, T f0 B0 H0 f B H → Sim K ca f B H S → it.Still S → ∀ i,
  (∀ d, it.ds[i]? = some d → J.go i H ∧ ∀ x H', J.yld i H x H' → ∃ B', Gw f B H f B' H' ∧ Sim K ca f B' H' S ∧ Rp K f B' d x) ∧ (it.ds.length ≤ i → J.stop i H)
abbrev RI : Fm → Hp → Hp → Itb → It → Prop := fun f B H it J => Wk K ca Gw it J f B H ∧ (it.own = false → Wk K ca Wg it J f B H)
def rdI (r : List Sl → Sto → Res Itb) : TI := fun σ H R => ∃ ρ S f B, At K ca ρ S f B σ H ∧ Post K ca W (RI K ca) σ f B H (fun J H' => R J H') (r ρ S)
end
section
variable {K : PySem.W.Frag} {ca : Nat → Addr} {W : WX} {f f' : Fm} {B B' H H' : Hp} {ρ : List Sl} {σ : L2.St} {S S' : Sto} {Q : VK}
theorem PostL.gw {r : Res (List D)} (g : Gw f B H f' B' H') (s : Sim K ca f' B' H' S') (h : PostL K ca W σ f B H Q r) : PostL K ca W σ f' B' H' Q r := by
  cases r with
  | ok ds S1 =>
    intro f2 B2 H2 p vs g2 s2 hp
    refine h f2 B2 H2 p vs (g.trans g2) s2 ?_
    cases e : H p with
    | none => rfl
    | some o =>
      by_cases hn : ∃ n, f n = some p
      · obtain ⟨n, hn⟩ := hn
        exact absurd (g.fx n p hn) (s.nof hp n)
      · rw [(g.fr p o e fun n z => hn ⟨n, z⟩).1] at hp; cases hp
  | exc c fs S1 => exact fun f2 B2 H2 dd g2 => h f2 B2 H2 dd (g.trans g2)
  | stuck => exact h
theorem Gw.freeze {p : Addr} {u : HO} (g : Gw f B H f' B' H') (hp : H p = none) (hB : B p = none) : Gw f B H f' (upd B' p u) H' :=
  ⟨g.fx, fun a o e => by rw [upd_ne (ne_of_none e hB)]; exact g.bx a o e, fun a o e n => by
    obtain ⟨e1, n1, b1⟩ := g.fr a o e n
    exact ⟨e1, n1, by rw [upd_ne (ne_of_none e hp)]; exact b1⟩⟩
theorem RpO.bx {a : Addr} {o : O} (h : RpO K ca f B H a o) (eb : Hx B B') (hd : ∀ d vs, H d = some (exd d vs) → B d = none → B' d = none) : RpO K ca f B' H a o := by
  cases o with
  | lst ds => obtain ⟨vs, q, r⟩ := h; exact ⟨vs, q, r.mono (.refl f) eb⟩
  | dic ds => obtain ⟨vs, q, r⟩ := h; exact ⟨vs, q, r.mono (.refl f) eb⟩
  | dit ds => obtain ⟨vs, q, r⟩ := h; exact ⟨vs, q, r.mono (.refl f) eb⟩
  | ins c fs => obtain ⟨dx, vs, q, r⟩ := h; exact ⟨dx, vs, q, r.mono (.refl f) eb⟩
  | exc c fs =>
    obtain ⟨d, vs, q, r, z⟩ := h
    refine ⟨d, vs, q, r.mono (.refl f) eb, ?_⟩
    cases d with
    | none => exact z
    | some d =>
      obtain ⟨z1, z0, z2, z3⟩ := z
      exact ⟨z1, z0, hd d vs z1 z2, z3⟩
theorem Sim.freezeNew {p : Addr} {u : HO} (s : Sim K ca f B H S) (hp : H p = some u) (hB : B p = none) (hf : ∀ n, f n ≠ some p) (hu : ∀ d vs, u ≠ exd d vs) : Sim K ca f (upd B p u) H S := by
  refine ⟨fun a o e => ?_, s.dom, fun n o e => ?_, s.all, s.inj⟩
  · by_cases q : a = p
    · subst q; rw [upd_same] at e; cases e; exact hp
    · rw [upd_ne q] at e; exact s.ex a o e
  · obtain ⟨a, ea, eb, r⟩ := s.cell n o e
    have ne : a ≠ p := fun z => hf n (z ▸ ea)
    refine ⟨a, ea, by rw [upd_ne ne]; exact eb, r.bx (.new hB) fun d vs z1 z2 => ?_⟩
    have nd : d ≠ p := fun z => by rw [z, hp] at z1; exact hu _ _ (Option.some.inj z1)
    rw [upd_ne nd]; exact z2
theorem lst_exd {vs : List V} : ∀ (d : Addr) (ws : List (Str × V)), HO.lst vs ≠ exd d ws := fun d ws z => by
  have z : HO.lst vs = HO.ext _ := z
  cases z
theorem dK_exd {vs : List (Key × V)} : ∀ (d : Addr) (ws : List (Str × V)), HO.dK vs ≠ exd d ws := fun d ws z => by
  have z : HO.dK vs = HO.ext _ := z
  cases z
theorem rdE.lst {r : List Sl → Sto → Res (List D)} (h : rdE K ca W (fun ρ S => (r ρ S).bind fun ds S1 => .ok (.lst ds) S1) σ H Q) : rdL K ca W r σ H Q := by
  obtain ⟨ρ, S, f, B, a, p⟩ := h
  refine ⟨ρ, S, f, B, a, ?_⟩
  dsimp only at p
  cases e : r ρ S with
  | ok ds S1 =>
    rw [e] at p
    intro f' B' H' q vs g s hq hB hf hH rA
    have bq : B q = none := a.si.free hq
    refine p f' (upd B' q (.lst vs)) H' _ (g.freeze hq bq) (s.freezeNew hH hB hf lst_exd) (Rp.x ?_)
    simp only [Rp]
    exact ⟨q, vs, rfl, upd_same, rA.mono (.refl f') (.new hB)⟩
  | exc c fs S1 => rw [e] at p; exact p
  | stuck => rw [e] at p; exact p
end

section
variable {K : PySem.W.Frag} {ca : Nat → Addr} {W : WX} {f f' f0 : Fm} {B B' B0 H H' H0 : Hp} {ρ : List Sl} {σ : L2.St} {S S' : Sto} {T : Fm → Hp → Hp → Fm → Hp → Hp → Prop} {it : Itb} {a : Addr}
theorem wk_list (h : ∀ f B H S, T f0 B0 H0 f B H → Sim K ca f B H S → it.Still S → ∃ vs, SqL K H a vs ∧ RpA K f B it.ds vs) : Wk K ca T it (Itl K a) f0 B0 H0 := fun f B H S t s st i => by
  obtain ⟨vs, q, r⟩ := h f B H S t s st
  refine ⟨fun d e => ?_, fun hi => ⟨vs, q, by rw [r.len]; exact hi⟩⟩
  obtain ⟨v, e1, e2⟩ := r.get e
  refine ⟨⟨vs, v, q, e1⟩, fun x H' ⟨eh, y⟩ => ?_⟩
  subst eh
  have e3 := y vs q
  rw [e1] at e3; cases e3
  exact ⟨B, .refl .., s, e2⟩
theorem wk_tup (h : ∀ f B H S, T f0 B0 H0 f B H → Sim K ca f B H S → it.Still S → ∃ vs, SqT K H a vs ∧ RpA K f B it.ds vs) : Wk K ca T it (Itt K a) f0 B0 H0 := fun f B H S t s st i => by
  obtain ⟨vs, q, r⟩ := h f B H S t s st
  refine ⟨fun d e => ?_, fun hi => ⟨vs, q, by rw [r.len]; exact hi⟩⟩
  obtain ⟨v, e1, e2⟩ := r.get e
  refine ⟨⟨vs, v, q, e1⟩, fun x H' ⟨eh, y⟩ => ?_⟩
  subst eh
  have e3 := y vs q
  rw [e1] at e3; cases e3
  exact ⟨B, .refl .., s, e2⟩
theorem wk_str {x : Str} (e : it.ds = x.cps.toList.map fun c => .str ⟨#[c]⟩) : Wk K ca T it (Its x) f0 B0 H0 := fun f B H S t s st i => by
  have len : it.ds.length = x.cps.size := by rw [e, List.length_map, Array.length_toList]
  refine ⟨fun d q => ?_, fun hi => by show x.cps.size ≤ i; rw [← len]; exact hi⟩
  have hi := (List.getElem?_eq_some_iff.mp q).1
  refine ⟨by show i < x.cps.size; rw [← len]; exact hi, fun y H' ⟨eh, c, y1, y2⟩ => ?_⟩
  subst eh; subst y2
  refine ⟨B, .refl .., s, ?_⟩
  rw [e, List.getElem?_map, Array.getElem?_toList, y1] at q
  cases q
  simp only [Rp]
theorem intsD_len : ∀ (n : Nat) (lo : Int), (intsD lo n).length = n
  | 0, _ => rfl
  | n + 1, lo => by simp only [intsD, List.length_cons, intsD_len n]
theorem intsD_get : ∀ (n : Nat) (lo : Int) (i : Nat) (d : D), (intsD lo n)[i]? = some d → d = .int (lo + i)
  | 0, _, _, _, e => by simp [intsD] at e
  | n + 1, lo, 0, d, e => by simp [intsD] at e; subst e; simp
  | n + 1, lo, i + 1, d, e => by
    simp only [intsD, List.getElem?_cons_succ] at e
    rw [intsD_get n (lo + 1) i d e]
    have : lo + 1 + (i : Int) = lo + ((i + 1 : Nat) : Int) := by omega
    rw [this]
theorem wk_rng {lo : Int} {n : Nat} (e : it.ds = intsD lo n) : Wk K ca T it (Itr lo n) f0 B0 H0 := fun f B H S t s st i => by
  have len : it.ds.length = n := by rw [e, intsD_len]
  refine ⟨fun d q => ?_, fun hi => by show n ≤ i; rw [← len]; exact hi⟩
  have hi := (List.getElem?_eq_some_iff.mp q).1
  refine ⟨by show i < n; rw [← len]; exact hi, fun y H' ⟨eh, y1⟩ => ?_⟩
  subst eh; subst y1
  refine ⟨B, .refl .., s, ?_⟩
  rw [e] at q
  rw [intsD_get _ _ _ _ q]
  simp only [Rp]
theorem enumD_len : ∀ (ds : List D) (k : Int), (enumD k ds).length = ds.length
  | [], _ => rfl
  | d :: ds, k => by simp only [enumD, List.length_cons, enumD_len ds]
theorem enumD_get : ∀ (ds : List D) (k : Int) (i : Nat) (e : D), (enumD k ds)[i]? = some e → ∃ d, ds[i]? = some d ∧ e = .tup [.int (k + i), d]
  | [], _, _, _, e => by simp [enumD] at e
  | d :: ds, k, 0, _, e => by simp [enumD] at e; subst e; exact ⟨d, by simp, by simp⟩
  | d :: ds, k, i + 1, _, e => by
    simp only [enumD, List.getElem?_cons_succ] at e
    obtain ⟨d', e1, e2⟩ := enumD_get ds (k + 1) i _ e
    have : k + 1 + (i : Int) = k + ((i + 1 : Nat) : Int) := by omega
    rw [this] at e2
    exact ⟨d', by simpa using e1, e2⟩
theorem wk_enum {ds : List D} (e : it.ds = enumD 0 ds) (h : ∀ f B H S, T f0 B0 H0 f B H → Sim K ca f B H S → it.Still S → ∃ vs, SqL K H a vs ∧ RpA K f B ds vs) : Wk K ca T it (Ite K a) f0 B0 H0 := fun f B H S t s st i => by
  obtain ⟨vs, q, r⟩ := h f B H S t s st
  refine ⟨fun d e1 => ?_, fun hi => ⟨vs, q, by rw [r.len]; rw [e, enumD_len] at hi; exact hi⟩⟩
  rw [e] at e1
  obtain ⟨d', e2, rfl⟩ := enumD_get _ _ _ _ e1
  obtain ⟨v, e3, e4⟩ := r.get e2
  refine ⟨⟨vs, v, q, e3⟩, fun x H' ⟨p, y, ex, hp, eh, z⟩ => ?_⟩
  subst ex; subst eh
  have e5 := z vs q
  rw [e3] at e5; cases e5
  have g : Gw f B H f (upd B p (.tup [.int (i : Nat), v])) (upd H p (.tup [.int (i : Nat), v])) := .frz hp (s.free hp)
  refine ⟨_, g, s.frz hp, ?_⟩
  simp only [Rp, RpA]
  exact ⟨p, _, rfl, SqT.of upd_same, _, _, rfl, by simp, _, _, rfl, e4.mono g.fx g.bx, rfl⟩
end
section
variable {X : Cx} {ca : Nat → Addr} {W : WX} {P : PrX} {a b c : Ex} {ea eb ec tg : Expr} {pos : Pos}
abbrev RL (X : Cx) (ca : Nat → Addr) (W : WX) (P : PrX) (e : Ex) : TE := rdL X.K ca W (fun ρ S => evL P ρ e S)
abbrev RIt (X : Cx) (ca : Nat → Addr) (W : WX) (P : PrX) (e : Ex) : TI := rdI X.K ca W (fun ρ S => evI P ρ e S)
theorem sl_lst {es : List Expr} (ha : PA X es (RA X ca W P a)) : PE X (.List es pos) (RL X ca W P (.lst a)) :=
  (pe_lst ha).imp fun σ H Q ⟨ρ, S, f, B, at_, p⟩ => by
    simp only [evL_lst] at p
    refine ⟨ρ, S, f, B, at_, ?_⟩
    dsimp only
    cases e : evA P ρ a S with
    | ok ds S1 =>
      rw [e, Res.bind_ok] at p
      intro f1 B1 H1 vs g s r
      have p := p.gw g s
      unfold okIf at p
      by_cases hc : ds.length ≤ sizeLine ∧ ds.all plainD = true
      · rw [if_pos hc] at p
        have rA := RXs.rpA r hc.2
        refine ⟨by rw [rA.len]; exact hc.1, fun q hq => ?_⟩
        exact p f1 B1 _ q vs (.ext (.new hq)) (s.ext (.new hq)) hq (s.free hq) (s.nof hq) upd_same rA
      · rw [if_neg hc] at p; exact p.elim
    | exc k fs S1 => rw [e] at p; exact p
    | stuck => rw [e] at p; exact p
theorem se_lst {e : Ex} {ex : Expr} (hl : PE X ex (RL X ca W P e)) (h : ∀ ρ S, evE P ρ e S = (evL P ρ e S).bind fun ds S1 => .ok (.lst ds) S1) : PE X ex (RE X ca W P e) :=
  hl.imp fun σ H Q q => rdE.lst (q.of h)
theorem _root_.L2.PI.imp {X : Cx} {tg e : Expr} {t t' : TI} (h : PI X tg e t) (i : ∀ σ H R, t' σ H R → t σ H R) : PI X tg e t' := ⟨fun pins s σ H R I q => h.run pins s σ H R I (i σ H R q)⟩
/-- a list, a tuple, a text that is walked -/
theorem si_seq (ha : PE X ea (RE X ca W P a)) : PI X tg ea (RIt X ca W P (.seq a)) := by
  refine ⟨fun pins s σ H R I ⟨ρ, S, f, B, at_, p⟩ => ?_⟩
  simp only [evI_seq] at p
  cases e : evE P ρ a S with
  | stuck => rw [e] at p; exact p.elim
  | exc k fs S1 =>
    rw [e] at p
    exact (pi_list ha).run pins s σ H R I ⟨ρ, S, f, B, at_, by dsimp only; rw [e]; exact p⟩
  | ok d S1 =>
    rw [e, Res.bind_ok] at p
    unfold seqIt at p
    split at p
    · rename_i it eit
      split at eit
      · -- a tuple
        rename_i ds er
        cases eit
        refine (pi_tup ha).run pins s σ H R I ⟨ρ, S, f, B, at_, ?_⟩
        dsimp only; rw [e]
        intro f1 B1 H1 v g s1 r
        have r : RpW X.K f1 B1 H1 (rs ρ d) v := r
        rw [er] at r
        have r : Rp X.K f1 B1 (.tup ds) v := r
        simp only [Rp] at r
        obtain ⟨x, vs, rfl, q, z⟩ := r
        refine ⟨x, rfl, ⟨vs, s1.ex.sqT q⟩, p f1 B1 H1 _ g s1 ⟨wk_tup fun f2 B2 H2 S2 t s2 _ => ⟨vs, s2.ex.sqT (t.bx.sqT q), z.mono t.fx t.bx⟩, fun _ => wk_tup fun f2 B2 H2 S2 t s2 _ => ⟨vs, s2.ex.sqT (t.bx.sqT q), z.mono t.fx t.bx⟩⟩⟩
      · -- a text
        rename_i x er
        cases eit
        refine (pi_str ha).run pins s σ H R I ⟨ρ, S, f, B, at_, ?_⟩
        dsimp only; rw [e]
        intro f1 B1 H1 v g s1 r
        have r : RpW X.K f1 B1 H1 (rs ρ d) v := r
        rw [er] at r
        cases rw_str r
        exact ⟨x, rfl, p f1 B1 H1 _ g s1 ⟨wk_str rfl, fun _ => wk_str rfl⟩⟩
      · -- an object of the store
        rename_i n er
        split at eit
        · rename_i ds eS
          cases eit
          refine (pi_list ha).run pins s σ H R I ⟨ρ, S, f, B, at_, ?_⟩
          dsimp only; rw [e]
          intro f1 B1 H1 v g s1 r
          have r : RpW X.K f1 B1 H1 (rs ρ d) v := r
          rw [er] at r
          have r : Rp X.K f1 B1 (.obj n) v := r
          simp only [Rp] at r
          obtain ⟨x, ex, rfl⟩ := r
          obtain ⟨_, vs, q, z⟩ := s1.live eS ex
          have key : ∀ f2 B2 H2 S2, Fx f1 f2 → Sim X.K ca f2 B2 H2 S2 → Itb.Still ⟨ds, some n, false⟩ S2 → ∃ vs, SqL X.K H2 x vs ∧ RpA X.K f2 B2 ds vs := fun f2 B2 H2 S2 t s2 st => by
            obtain ⟨ds', e1, e2⟩ := st n rfl
            have e2 : ds' = ds := e2
            subst e2
            obtain ⟨_, ws, q2, z2⟩ := s2.live e1 (t _ _ ex)
            exact ⟨ws, .of q2, z2⟩
          exact ⟨x, rfl, ⟨vs, .of q⟩, p f1 B1 H1 _ g s1 ⟨wk_list fun f2 B2 H2 S2 t s2 st => key f2 B2 H2 S2 t.fx s2 st, fun _ => wk_list fun f2 B2 H2 S2 t s2 st => key f2 B2 H2 S2 t.fx s2 st⟩⟩
        · cases eit
      · -- an own list
        rename_i ds er
        cases eit
        refine (pi_list ha).run pins s σ H R I ⟨ρ, S, f, B, at_, ?_⟩
        dsimp only; rw [e]
        intro f1 B1 H1 v g s1 r
        have r : RpW X.K f1 B1 H1 (rs ρ d) v := r
        rw [er] at r
        obtain ⟨x, rfl, b1, n1, vs, q, z⟩ := r
        refine ⟨x, rfl, ⟨vs, .of q⟩, p f1 B1 H1 _ g s1 ⟨wk_list fun f2 B2 H2 S2 t s2 _ => ⟨vs, .of (t.fr x _ q n1).1, z.mono t.fx t.bx⟩, fun h => by cases h⟩⟩
      · split at eit
        · rename_i ds eS
          cases eit
          refine (pi_list ha).run pins s σ H R I ⟨ρ, S, f, B, at_, ?_⟩
          dsimp only; rw [e]
          intro f1 B1 H1 v g s1 r
          have r : RpW X.K f1 B1 H1 (rs ρ d) v := r
          have key : ∃ x vs, v = .ref x ∧ SqL X.K B1 x vs ∧ RpA X.K f1 B1 ds vs := by
            generalize rs ρ d = o at *
            cases o with
            | d d =>
              cases d with
              | lst ds' =>
                cases eS
                have r : Rp X.K f1 B1 (.lst ds) v := r
                simp only [Rp] at r
                obtain ⟨x, vs, e, q, z⟩ := r
                exact ⟨x, vs, e, .of q, z⟩
              | frl ds' =>
                cases eS
                have r : Rp X.K f1 B1 (.frl ds) v := r
                simp only [Rp] at r
                obtain ⟨x, vs, e, q, z⟩ := r
                exact ⟨x, vs, e, q, z⟩
              | obj n => exact ((‹∀ (m : Nat), Ov.d (D.obj n) = Ov.d (D.obj m) → False› : ∀ (m : Nat), Ov.d (D.obj n) = Ov.d (D.obj m) → False) n rfl).elim
              | _ => cases eS
            | o o => cases o with
              | lst xs => exact ((‹∀ (m : List D), Ov.o (O.lst xs) = Ov.o (O.lst m) → False› : ∀ (m : List D), Ov.o (O.lst xs) = Ov.o (O.lst m) → False) xs rfl).elim
              | _ => cases eS
            | bad => cases eS
          obtain ⟨x, vs, rfl, q, z⟩ := key
          exact ⟨x, rfl, ⟨vs, s1.ex.sqL q⟩, p f1 B1 H1 _ g s1 ⟨wk_list fun f2 B2 H2 S2 t s2 _ => ⟨vs, s2.ex.sqL (t.bx.sqL q), z.mono t.fx t.bx⟩, fun _ => wk_list fun f2 B2 H2 S2 t s2 _ => ⟨vs, s2.ex.sqL (t.bx.sqL q), z.mono t.fx t.bx⟩⟩⟩
        · cases eit
    · exact p.elim
end
end Mx
end

section
set_option maxRecDepth 100000
set_option maxHeartbeats 4000000
/-! Mx11: targets, ranges, comprehensions. -/
namespace Mx
open PySem PySem.Spec PyProof.Rows L2
section
variable {K : PySem.W.Frag} {ca : Nat → Addr} {W : WX} {f f' : Fm} {B B' H H' : Hp} {ρ ρ' : List Sl} {σ σ' : L2.St} {S S' : Sto}
theorem Sim.updOwn {p : Addr} {u w : HO} (s : Sim K ca f B H S) (hp : H p = some w) (hw : ∀ d vs, w ≠ exd d vs) (hB : B p = none) (hf : ∀ n, f n ≠ some p) : Sim K ca f B (upd H p u) S := by
  refine ⟨fun a o e => ?_, s.dom, fun n o e => ?_, fun n a e => upd_there (s.all n a e), s.inj⟩
  · have q : a ≠ p := fun z => by rw [z, hB] at e; cases e
    rw [upd_ne q]; exact s.ex a o e
  · obtain ⟨a, ea, eb, r⟩ := s.cell n o e
    have ne : a ≠ p := fun z => hf n (z ▸ ea)
    have nd : ∀ d vs, H d = some (exd d vs) → d ≠ p := fun d vs z1 z => by rw [z] at z1; rw [hp] at z1; exact hw _ _ (Option.some.inj z1)
    refine ⟨a, ea, eb, ?_⟩
    cases o with
    | lst ds => obtain ⟨vs, q, r⟩ := r; exact ⟨vs, by rw [upd_ne ne]; exact q, r⟩
    | dic ds => obtain ⟨vs, q, r⟩ := r; exact ⟨vs, by rw [upd_ne ne]; exact q, r⟩
    | dit ds => obtain ⟨vs, q, r⟩ := r; exact ⟨vs, by rw [upd_ne ne]; exact q, r⟩
    | ins c fs => obtain ⟨dx, vs, q, r⟩ := r; exact ⟨dx, vs, by rw [upd_ne ne]; exact q, r⟩
    | exc c fs =>
      obtain ⟨d, vs, q, r, z⟩ := r
      refine ⟨d, vs, by rw [upd_ne ne]; exact q, r, ?_⟩
      cases d with
      | none => exact z
      | some d =>
        obtain ⟨z1, z0, z2, z3⟩ := z
        exact ⟨by rw [upd_ne (nd d vs z1)]; exact z1, z0, z2, z3⟩
theorem Gw.updNew {p : Addr} {u : HO} (g : Gw f B H f' B' H') (hp : H p = none) : Gw f B H f' B' (upd H' p u) :=
  ⟨g.fx, g.bx, fun a o e n => by
    obtain ⟨e1, n1, b1⟩ := g.fr a o e n
    exact ⟨by rw [upd_ne (ne_of_none e hp)]; exact e1, n1, b1⟩⟩
theorem getS {α : Type} {l : List α} {i j : Nat} {x : α} : (l.set i x)[j]? = if i = j ∧ j < l.length then some x else l[j]? := by
  rw [List.getElem?_set]
  by_cases h : i = j
  · subst h
    rw [if_pos rfl]
    by_cases hl : i < l.length
    · rw [if_pos hl, if_pos ⟨rfl, hl⟩]
    · rw [if_neg hl, if_neg (fun z => hl z.2)]
      exact (List.getElem?_eq_none_iff.mpr (Nat.le_of_not_lt hl)).symm
  · rw [if_neg h, if_neg (fun z => h z.1)]
theorem EnvR.setV {i : Nat} {d : D} {v : V} (h : EnvR K f B H ρ σ) (r : Rp K f B d v) : EnvR K f B H (ρ.set i (.val d)) (σ.set i (some v)) := by
  have ne : ∀ (j : Nat) (o : O), (ρ.set i (.val d))[j]? = some (.own o) → ρ[j]? = some (.own o) ∧ ¬ (i = j ∧ j < σ.length) := fun j o e => by
    rw [getS] at e
    by_cases c : i = j ∧ j < ρ.length
    · rw [if_pos c] at e; cases e
    · rw [if_neg c] at e; exact ⟨e, by rw [← h.len]; exact c⟩
  refine ⟨by simp [h.len], fun j e q => ?_, fun j o q => ?_, fun j k o u a q1 q2 e1 e2 => ?_⟩
  · rw [getS] at q
    rw [getS, ← h.len]
    by_cases c : i = j ∧ j < ρ.length
    · rw [if_pos c] at q ⊢; cases q; exact ⟨v, rfl, r⟩
    · rw [if_neg c] at q ⊢; exact h.val j e q
  · obtain ⟨q1, c⟩ := ne j o q
    rw [getS, if_neg c]
    exact h.own j o q1
  · obtain ⟨y1, c1⟩ := ne j o q1
    obtain ⟨y2, c2⟩ := ne k u q2
    rw [getS, if_neg c1] at e1
    rw [getS, if_neg c2] at e2
    exact h.inj j k o u a y1 y2 e1 e2
theorem EnvR.setN {i : Nat} (h : EnvR K f B H ρ σ) : EnvR K f B H (ρ.set i .no) (σ.set i none) := by
  have nv : ∀ (j : Nat) (x : Sl), x ≠ .no → (ρ.set i .no)[j]? = some x → ρ[j]? = some x ∧ ¬ (i = j ∧ j < σ.length) := fun j x hx e => by
    rw [getS] at e
    by_cases c : i = j ∧ j < ρ.length
    · rw [if_pos c] at e; cases e; exact absurd rfl hx
    · rw [if_neg c] at e; exact ⟨e, by rw [← h.len]; exact c⟩
  refine ⟨by simp [h.len], fun j e q => ?_, fun j o q => ?_, fun j k o u a q1 q2 e1 e2 => ?_⟩
  · obtain ⟨q1, c⟩ := nv j (.val e) (fun z => by cases z) q
    rw [getS, if_neg c]; exact h.val j e q1
  · obtain ⟨q1, c⟩ := nv j (.own o) (fun z => by cases z) q
    rw [getS, if_neg c]; exact h.own j o q1
  · obtain ⟨y1, c1⟩ := nv j (.own o) (fun z => by cases z) q1
    obtain ⟨y2, c2⟩ := nv k (.own u) (fun z => by cases z) q2
    rw [getS, if_neg c1] at e1
    rw [getS, if_neg c2] at e2
    exact h.inj j k o u a y1 y2 e1 e2
theorem EnvR.wiped (h : EnvR K f B H ρ σ) : ∀ vs : List Nat, EnvR K f B H (wipeS ρ vs) (wipe σ vs)
  | [] => h
  | v :: vs => (h.wiped vs).setN
/-- σ' is σ but at the slots vs -/
def ButAt (vs : List Nat) (σ σ' : L2.St) : Prop := σ'.length = σ.length ∧ ∀ i, i ∉ vs → σ'[i]? = σ[i]?
theorem wipe_get {i : Nat} : ∀ (vs : List Nat) (σ : L2.St), (wipe σ vs)[i]? = if i ∈ vs ∧ i < σ.length then some none else σ[i]?
  | [], σ => by simp [wipe]
  | v :: vs, σ => by
    show ((wipe σ vs).set v none)[i]? = _
    rw [getS, wipe_get vs σ, wipe_length]
    by_cases c : v = i ∧ i < σ.length
    · rw [if_pos c, if_pos ⟨by rw [c.1]; exact List.mem_cons_self, c.2⟩]
    · rw [if_neg c]
      by_cases c2 : i ∈ vs ∧ i < σ.length
      · rw [if_pos c2, if_pos ⟨List.mem_cons_of_mem _ c2.1, c2.2⟩]
      · rw [if_neg c2, if_neg (fun z => by
          rcases List.mem_cons.mp z.1 with q | q
          · exact c ⟨q.symm, z.2⟩
          · exact c2 ⟨q, z.2⟩)]
theorem ButAt.wipe {vs : List Nat} (h : ButAt vs σ σ') : wipe σ' vs = wipe σ vs := by
  apply List.ext_getElem?
  intro i
  rw [wipe_get, wipe_get, h.1]
  by_cases c : i ∈ vs ∧ i < σ.length
  · rw [if_pos c, if_pos c]
  · rw [if_neg c, if_neg c]
    by_cases m : i ∈ vs
    · have hl : σ.length ≤ i := Nat.le_of_not_lt fun z => c ⟨m, z⟩
      rw [List.getElem?_eq_none_iff.mpr hl, List.getElem?_eq_none_iff.mpr (by rw [h.1]; exact hl)]
    · exact h.2 i m
theorem ButAt.self {vs : List Nat} : ButAt vs σ (L2.wipe σ vs) := ⟨wipe_length .., fun i h => by rw [wipe_get, if_neg (fun z => h z.1)]⟩
theorem ButAt.set {vs : List Nat} {i : Nat} {x : Option V} (h : ButAt vs σ σ') (hi : i ∈ vs) : ButAt vs σ (σ'.set i x) := ⟨by rw [List.length_set]; exact h.1, fun j hj => by
  rw [getS, if_neg (fun z : i = j ∧ j < List.length σ' => hj (z.1 ▸ hi))]; exact h.2 j hj⟩
def gNs : List Nat → TGs
  | [] => gNil
  | i :: l => gCons (gName i) (gNs l)
def gT (K : PySem.W.Frag) : Tg → TG
  | .name i => gName i
  | .tup l => gTup K l.length (gNs l)
theorem gNs_ok (hx : Hx B H) {l0 : List Nat} {σ0 : L2.St} {Q : L2.St → Hp → Prop} : ∀ {l : List Nat} {ds : List D} {vs : List V} {ρ ρ' : List Sl} {σ : L2.St}, EnvR K f B H ρ σ → RpA K f B ds vs → setAll ρ l ds = some ρ' → ButAt l0 σ0 σ → (∀ i ∈ l, i ∈ l0) →
    (∀ σ', EnvR K f B H ρ' σ' → ButAt l0 σ0 σ' → Q σ' H) → gNs l vs σ H Q
  | [], [], _, _, _, _, h, r, e, b, _, k => by
    simp only [RpA] at r; subst r
    cases e
    exact ⟨rfl, k _ h b⟩
  | [], _ :: _, _, _, _, _, _, _, e, _, _, _ => by cases e
  | _ :: _, [], _, _, _, _, _, _, e, _, _, _ => by cases e
  | i :: l, d :: ds, _, _, _, _, h, r, e, b, m, k => by
    simp only [RpA] at r
    obtain ⟨v, vs, rfl, r1, r2⟩ := r
    refine ⟨v, vs, rfl, ?_⟩
    exact gNs_ok hx (h.setV r1) r2 (show setAll _ l ds = some _ from e) (b.set (m i List.mem_cons_self)) (fun j hj => m j (List.mem_cons_of_mem _ hj)) k
theorem asgT_ok (hx : Hx B H) {t : Tg} {d : D} {v : V} {Q : L2.St → Hp → Prop} (h : EnvR K f B H ρ σ) (r : Rp K f B d v) (e : asgT t d ρ = some ρ') (k : ∀ σ', EnvR K f B H ρ' σ' → ButAt t.slots σ σ' → Q σ' H) : gT K t v σ H Q := by
  cases t with
  | name i =>
    cases e
    exact k _ (h.setV r) ((show ButAt [i] σ σ from ⟨rfl, fun _ _ => rfl⟩).set List.mem_cons_self)
  | tup l =>
    cases d with
    | tup ds =>
      simp only [asgT] at e
      by_cases hl : ds.length = l.length
      · rw [if_pos hl] at e
        simp only [Rp] at r
        obtain ⟨a, vs, rfl, q, z⟩ := r
        exact ⟨a, vs, rfl, hx.sqT q, by rw [z.len, hl], gNs_ok hx h z e ⟨rfl, fun _ _ => rfl⟩ (fun _ h => h) k⟩
      · rw [if_neg hl] at e; cases e
    | _ => cases e
end
section
variable {X : Cx} {ca : Nat → Addr} {W : WX} {P : PrX} {a b c : Ex} {ea eb ec tg : Expr} {p pos : Pos}
theorem si_rng1 (hg : Gl X "range") (hm : X.mg "range" = none) (ha : PE X ea (RE X ca W P a)) (hs : starEach [ea] X.env = [(false, eval ea X.env)]) : PI X tg (.Call (.Name "range" p) [ea] [] pos) (RIt X ca W P (.rng1 a)) :=
  (pi_range1 hg hm (pa_cons ha pa_nil hs) hs).imp fun σ H R ⟨ρ, S, f, B, at_, q⟩ => by
    simp only [evI_rng1] at q
    refine ⟨ρ, S, f, B, at_, q.bind.imp fun v H1 ⟨d, S1, f1, B1, g, s, r, q⟩ => ?_⟩
    cases d with
    | int j =>
      obtain ⟨c, q⟩ := q.okIf
      have e : v = .int j := by have r : Rp X.K f1 B1 (.int j) v := r; simpa only [Rp] using r
      subst e
      exact ⟨j, rfl, c.1, c.2, q f1 B1 H1 _ (.refl ..) s ⟨wk_rng rfl, fun _ => wk_rng rfl⟩⟩
    | _ => exact q.elim
theorem si_rng2 (hg : Gl X "range") (hm : X.mg "range" = none) (ha : PE X ea (RE X ca W P a)) (hb : PE X eb (RE X ca W P b)) (h1 : starEach [ea, eb] X.env = [(false, eval ea X.env), (false, eval eb X.env)]) (h2 : starEach [eb] X.env = [(false, eval eb X.env)]) :
    PI X tg (.Call (.Name "range" p) [ea, eb] [] pos) (RIt X ca W P (.rng2 a b)) :=
  (pi_range2 hg hm (pa_cons ha (pa_cons hb pa_nil h2) (by rw [h1, h2])) h1 h2).imp fun σ H R ⟨ρ, S, f, B, at_, q⟩ => by
    simp only [evI_rng2] at q
    refine ⟨ρ, S, f, B, at_, q.bind.imp fun v H1 ⟨d, S1, f1, B1, g, s, r, q⟩ => ?_⟩
    refine ⟨ρ, S1, f1, B1, at_.gw g s, q.bind.imp fun w H2 ⟨d2, S2, f2, B2, g2, s2, r2, q⟩ => ?_⟩
    cases d with
    | int i =>
      cases d2 with
      | int j =>
        obtain ⟨c, q⟩ := q.okIf
        have e : v = .int i := by have r : Rp X.K f1 B1 (.int i) v := r; simpa only [Rp] using r
        have e2 : w = .int j := by have r : Rp X.K f2 B2 (.int j) w := r2; simpa only [Rp] using r
        subst e; subst e2
        exact ⟨i, j, rfl, c, q f2 B2 H2 _ (.refl ..) s2 ⟨wk_rng rfl, fun _ => wk_rng rfl⟩⟩
      | _ => exact q.elim
    | _ => exact q.elim
theorem si_enum {kk : Nat} {tpos : Pos} {elts : List Expr} (hg : Gl X "enumerate") (hm : X.mg "enumerate" = none) (ha : PE X ea (RE X ca W P a)) (hs : starEach [ea] X.env = [(false, eval ea X.env)]) :
    PI X (.Tuple elts kk tpos) (.Call (.Name "enumerate" p) [ea] [] pos) (RIt X ca W P (.enum a)) :=
  (pi_enum hg hm (pa_cons ha pa_nil hs) hs).imp fun σ H R ⟨ρ, S, f, B, at_, q⟩ => by
    simp only [evI_enum] at q
    refine ⟨ρ, S, f, B, at_, q.bind.imp fun v H1 ⟨d, S1, f1, B1, g, s, r, q⟩ => ?_⟩
    split at q
    · rename_i ds e1
      split at q
      · rename_i ds2 e2
        have r : RpW X.K f1 B1 H1 (rs ρ d) v := r
        rw [e2] at r e1
        cases e1
        have r : Rp X.K f1 B1 (.lst ds) v := r
        simp only [Rp] at r
        obtain ⟨x, vs, rfl, h, z⟩ := r
        exact ⟨x, vs, rfl, .of (s.ex _ _ h), q f1 B1 H1 _ (.refl ..) s ⟨wk_enum rfl fun f2 B2 H2 S2 t s2 _ => ⟨vs, .of (s2.ex _ _ (t.bx _ _ h)), z.mono t.fx t.bx⟩, fun _ => wk_enum rfl fun f2 B2 H2 S2 t s2 _ => ⟨vs, .of (s2.ex _ _ (t.bx _ _ h)), z.mono t.fx t.bx⟩⟩⟩
      · exact q.elim
    · exact q.elim

noncomputable def turnC (P : PrX) (ρ : List Sl) (t : Tg) (c e : Ex) (x : D) (S2 : Sto) : Res (Option D) := match asgT t x (wipeS ρ t.slots) with
  | some ρ1 => noExc ((evE P ρ1 c S2).bind fun b S3 => match b with
    | .bl true => (evE P ρ1 e S3).bind fun y S4 => if plainD y = true then .ok (some y) S4 else .stuck
    | .bl false => .ok none S3
    | _ => .stuck)
  | none => .stuck
theorem evL_compT {P : PrX} {ρ : List Sl} {S : Sto} {t : Tg} {s c e : Ex} : evL P ρ (.comp t s c e) S = (evI P ρ s S).bind fun it S1 => compL it.Still (turnC P ρ t c e) it.ds [] S1 := by rw [evL_comp]; rfl
/-- no exception is wished for -/
abbrev W0 : WX := fun _ _ _ _ => False
theorem drop_cons {α : Type} {l : List α} {i : Nat} (h : i < l.length) : ∃ x, l[i]? = some x ∧ l.drop i = x :: l.drop (i + 1) := ⟨l[i], by simp [h], by simp⟩
theorem comp_rd {t : Tg} {s c e : Ex} {σ : L2.St} {H : Hp} {Q : VK} (h : RL X ca W P (.comp t s c e) σ H Q) : tLc (RIt X ca W P s) (gT X.K t) (RT X ca W0 P c) (RE X ca W0 P e) t.slots σ H Q := by
    obtain ⟨ρ, S, f, B, at_, p⟩ := h
    simp only [evL_compT] at p
    refine ⟨ρ, S, f, B, at_, ?_⟩
    dsimp only
    cases ei : evI P ρ s S with
    | stuck => rw [ei] at p; exact p
    | exc k fs S1 => rw [ei] at p; exact p
    | ok it S1 =>
      rw [ei, Res.bind_ok] at p
      intro f1 B1 H1 J g1 s1 wk Da hD
      have p := p.gw g1 s1
      refine ⟨fun i m H2 => m = it.ds.length - i ∧ i ≤ it.ds.length ∧ ∃ S2 f2 B2 acc vs, Gw f1 B1 H1 f2 B2 H2 ∧ Sim X.K ca f2 B2 H2 S2 ∧ H2 Da = some (.lst vs) ∧ B2 Da = none ∧ (∀ n, f2 n ≠ some Da) ∧ RpA X.K f2 B2 acc vs ∧
        PostL X.K ca W σ f1 B1 H1 Q (compL it.Still (turnC P ρ t c e) (it.ds.drop i) acc S2), ⟨it.ds.length, ?_⟩, ?_⟩
      · refine ⟨by simp, Nat.zero_le _, S1, f1, B1, [], [], .ext (.new hD), s1.ext (.new hD), upd_same, s1.free hD, s1.nof hD, by simp only [RpA], ?_⟩
        simpa using p
      · rintro i m H2 ⟨rfl, hle, S2, f2, B2, acc, vs, g2, s2, hd2, bd2, fd2, ra, pp⟩
        have st : it.Still S2 := by
          cases hdr : it.ds.drop i with
          | nil =>
            rw [hdr] at pp
            unfold compL at pp
            split at pp
            · assumption
            · exact pp.elim
          | cons x xs =>
            rw [hdr] at pp
            unfold compL at pp
            split at pp
            · assumption
            · exact pp.elim
        obtain ⟨w1, w2⟩ := wk.1 f2 B2 H2 S2 g2 s2 st i
        by_cases hlt : i < it.ds.length
        · obtain ⟨d, ed, edr⟩ := drop_cons hlt
          rw [edr] at pp
          unfold compL at pp
          rw [if_pos st] at pp
          obtain ⟨go, yl⟩ := w1 d ed
          refine .inr ⟨go, fun H' => it.ds.length - (i + 1) = it.ds.length - (i + 1) ∧ i + 1 ≤ it.ds.length ∧ ∃ S2 f2 B2 acc vs, Gw f1 B1 H1 f2 B2 H' ∧ Sim X.K ca f2 B2 H' S2 ∧ H' Da = some (.lst vs) ∧ B2 Da = none ∧ (∀ n, f2 n ≠ some Da) ∧ RpA X.K f2 B2 acc vs ∧
            PostL X.K ca W σ f1 B1 H1 Q (compL it.Still (turnC P ρ t c e) (it.ds.drop (i + 1)) acc S2), fun H' q => ⟨it.ds.length - (i + 1), by omega, q⟩, fun x H3 y => ?_⟩
          obtain ⟨B3, g3, s3, rx⟩ := yl x H3 y
          have g13 := g2.trans g3
          obtain ⟨hd3, fd3, bd3⟩ := g3.fr Da _ hd2 fd2
          have en3 : EnvR X.K f2 B3 H3 ρ σ := (at_.en.gw g1).gw g13
          have pp : PostL X.K ca W σ f1 B1 H1 Q ((turnC P ρ t c e d S2).bind _) := pp
          unfold turnC at pp
          cases ea : asgT t d (wipeS ρ t.slots) with
          | none => rw [ea] at pp; exact pp.elim
          | some ρ1 =>
            rw [ea] at pp
            dsimp only at pp
            refine asgT_ok s3.ex (en3.wiped t.slots) rx ea fun σ2 en2 bu => ⟨?_, ?_⟩
            · have e1 := bu.wipe
              rw [e1]
              exact ButAt.self.wipe
            · refine ⟨ρ1, S2, f2, B3, ⟨en2, s3⟩, ?_⟩
              show Post _ _ _ _ _ _ _ _ _ ((evE P ρ1 c S2).bind asB)
              cases ec : evE P ρ1 c S2 with
              | stuck => rw [ec] at pp; exact pp.elim
              | exc k fs S4 => rw [ec] at pp; exact pp.elim
              | ok b S4 =>
                rw [ec, Res.bind_ok] at pp
                rw [Res.bind_ok]
                cases b with
                | bl b =>
                  intro f4 B4 H4 v4 g4 s4 ev
                  cases ev
                  obtain ⟨hd4, fd4, bd4⟩ := g4.fr Da _ hd3 fd3
                  have g14 := g13.trans g4
                  cases b with
                  | false =>
                    rw [if_neg Bool.false_ne_true]
                    exact ⟨rfl, hlt, S4, f4, B4, acc, vs, g14, s4, hd4, by rw [bd4, bd3]; exact bd2, fd4, ra.mono (g3.fx.trans g4.fx) (g3.bx.trans g4.bx), pp⟩
                  | true =>
                    rw [if_pos rfl]
                    refine ⟨ρ1, S4, f4, B4, ⟨en2.gw g4, s4⟩, ?_⟩
                    dsimp only at pp ⊢
                    cases ee : evE P ρ1 e S4 with
                    | stuck => rw [ee] at pp; exact pp.elim
                    | exc k fs S5 => rw [ee] at pp; exact pp.elim
                    | ok y S5 =>
                      rw [ee, Res.bind_ok] at pp
                      by_cases hp : plainD y = true
                      · rw [if_pos hp] at pp
                        intro f5 B5 H5 v5 g5 s5 r5
                        obtain ⟨hd5, fd5, bd5⟩ := g5.fr Da _ hd4 fd4
                        have r5 : RpW X.K f5 B5 H5 (rs ρ1 y) v5 := r5
                        rw [plain_d hp] at r5
                        have bD : B5 Da = none := by rw [bd5, bd4, bd3]; exact bd2
                        have ra5 := ra.mono ((g3.fx.trans g4.fx).trans g5.fx) ((g3.bx.trans g4.bx).trans g5.bx)
                        have pp : PostL X.K ca W σ f1 B1 H1 Q (if acc.length < sizeLine then compL it.Still _ (it.ds.drop (i + 1)) (acc ++ [y]) S5 else .stuck) := pp
                        by_cases hz : acc.length < sizeLine
                        · rw [if_pos hz] at pp
                          refine ⟨vs, hd5, by rw [ra.len]; exact hz, rfl, hlt, S5, f5, B5, acc ++ [y], vs ++ [v5], (g14.trans g5).updNew hD, s5.updOwn hd5 lst_exd bD fd5, upd_same, bD, fd5, ra5.app (.one r5), pp⟩
                        · rw [if_neg hz] at pp; exact pp.elim
                      · rw [if_neg hp] at pp; exact pp.elim
                | _ => exact pp.elim
        · have ei : i = it.ds.length := by omega
          refine .inl ⟨w2 (by omega), ?_⟩
          rw [ei, List.drop_length] at pp
          unfold compL at pp
          rw [if_pos st] at pp
          exact pp f2 B2 H2 Da vs g2 s2 hD bd2 fd2 hd2 ra
theorem sl_comp {t : Tg} {s c e : Ex} {elt iter : Expr} {ifs : List Expr} {scope : Scope} {own : List (Str × Nat)} (hc : X.calm = true) (hN : X.N.Nodup) (hi : PI X tg iter (RIt X ca W P s)) (hown : own.map (·.2) = t.slots) (ok : BlkOk X.N X.env.scope scope own)
    (hg : ∀ (s : Shared) (H : Hp) (C : Addr) (cl : List (Str × Addr)) (fp : List Addr), PG (X.blk s H scope (compEnvC scope cl C X.env) fp) tg (gT X.K t))
    (ht : ∀ (s : Shared) (H : Hp) (C : Addr) (cl : List (Str × Addr)) (fp : List Addr), PTs (X.blk s H scope (compEnvC scope cl C X.env) fp) ifs (RT X ca W0 P c))
    (he : ∀ (s : Shared) (H : Hp) (C : Addr) (cl : List (Str × Addr)) (fp : List Addr), PE (X.blk s H scope (compEnvC scope cl C X.env) fp) elt (RE X ca W0 P e)) (hs : ∀ x, foldedSetIterable iter X.env x = pure x) :
    PE X (.ListComp elt [⟨tg, iter, ifs, 0⟩] scope pos) (RL X ca W P (.comp t s c e)) :=
  (pe_lc hc hN hi ok hg ht he hs).imp fun σ H Q h => by
    rw [hown]
    exact comp_rd h
end
end Mx
end

section
set_option maxRecDepth 100000
set_option maxHeartbeats 4000000
/-! Mx12: calls of defs and of built-ins, fields, exceptions as values, isinstance. -/
namespace Mx
open PySem PySem.Spec PyProof.Rows L2
section
variable (K : PySem.W.Frag) (ca : Nat → Addr)
def PostC (f : Fm) (B H : Hp) (Q : VK) (E : XK) : Res D → Prop
  | .ok d S' => ∀ f' B' H' v, Gw f B H f' B' H' → Sim K ca f' B' H' S' → Rp K f' B' d v → Q v H'
  | .exc c fs S' => ∀ f' B' H' dd, Gw f B H f' B' H' → Sim K ca f' B' H' S' → Xd K f' B' H' fs dd → E (.ref (ca c)) dd H'
  | .stuck => False
/-- what a def promises: the evaluator's answer -/
def spF (call : Calls) (g n : Nat) : Sp := fun vs H Q E => ∃ ds S f B, RpA K f B ds vs ∧ Sim K ca f B H S ∧ ds.length = n ∧ PostC K ca f B H Q E (call g ds S)
end
section
variable {K : PySem.W.Frag} {ca : Nat → Addr} {W : WX} {f f' : Fm} {B B' H H' : Hp} {ρ : List Sl} {σ : L2.St} {S S' : Sto} {Q : VK}
theorem Post.toC {r : Res D} (p : Post K ca W (RX K ρ) σ f B H Q r) : PostC K ca f B H Q (fun c d H' => W c d σ H') r := by
  cases r with
  | ok d S1 => exact fun f' B' H' v g s r => p f' B' H' v g s r.x
  | exc c fs S1 => exact p
  | stuck => exact p
end
section
variable {X : Cx} {ca : Nat → Addr} {W : WX} {P : PrX} {a b l : Ex} {ea eb : Expr} {es : List Expr} {x : Str} {p pos : Pos} {k g n : Nat} {ga : Addr} {fd : FuncData} {ps : List Str}
theorem se_call (tk : Takes X W) (F : FnG X.prog X.w X.K X.mg X.base k ga fd ps (spF X.K ca P.call g n)) (hr : Room k X.A) (hg : X.A.guards = some []) (gx : Gl X x) (mx : X.mg x = some (.ref ga)) (kp : PySem.W.keepIn X.K (.ref ga) = true) (hb : Binds X.K fd ps [])
    (ha : PA X (ea :: es) (RA X ca W P l)) (nd : (x == ("__debug__" : Str)) = false) (st : starEach (ea :: es) X.env = (false, eval ea X.env) :: starEach es X.env) (bt : (backTo pos (starEach es X.env)).any (·.1) = false)
    (hn : ∀ ρ S ds S', evA P ρ l S = .ok ds S' → ds.length = n) : PE X (.Call (.Name x p) (ea :: es) [] pos) (RE X ca W P (.call g l)) :=
  (pe_callG (E := fun σ c d H => W c d σ H) F hr hg gx mx kp hb .nil (fun σ => passG tk fun c d H h => h) ha nd st bt).imp fun σ H Q ⟨ρ, S, f, B, at_, q⟩ => by
    simp only [evE_call] at q
    refine ⟨ρ, S, f, B, at_, ?_⟩
    dsimp only
    cases e : evA P ρ l S with
    | stuck => rw [e] at q; exact q
    | exc c fs S1 => rw [e] at q; exact q
    | ok ds S1 =>
      rw [e, Res.bind_ok] at q
      intro f1 B1 H1 vs g1 s1 r
      by_cases hp : ds.all plainD = true
      · rw [if_pos hp] at q
        show spF X.K ca P.call g n (vs ++ []) H1 Q _
        rw [List.append_nil]
        exact ⟨ds, S1, f1, B1, RXs.rpA r hp, s1, hn _ _ _ _ e, (q.gw g1).toC⟩
      · rw [if_neg hp] at q; exact q.elim
theorem se_call0 (tk : Takes X W) (F : FnG X.prog X.w X.K X.mg X.base k ga fd ps (spF X.K ca P.call g 0)) (hr : Room k X.A) (hg : X.A.guards = some []) (gx : Gl X x) (mx : X.mg x = some (.ref ga)) (kp : PySem.W.keepIn X.K (.ref ga) = true) (hb : Binds X.K fd ps [])
    (nd : (x == ("__debug__" : Str)) = false) : PE X (.Call (.Name x p) [] [] pos) (RE X ca W P (.call g .nil)) :=
  (pe_callG0 (E := fun σ c d H => W c d σ H) F hr hg gx mx kp hb .nil (fun σ => passG tk fun c d H h => h) nd).imp fun σ H Q ⟨ρ, S, f, B, at_, q⟩ => by
    simp only [evE_call, evA_nil, Res.bind_ok] at q
    rw [if_pos (by rfl)] at q
    exact ⟨[], S, f, B, by simp only [RpA]; rfl, at_.si, rfl, q.toC⟩
/-! ### built-ins -/
theorem rw1 {K : PySem.W.Frag} {f : Fm} {B H : Hp} {o : Ov} {xs : List V} (r : Paired (RpW K f B H) [o] xs) : ∃ x, xs = [x] ∧ RpW K f B H o x := by
  cases r with
  | cons h t => cases t; exact ⟨_, rfl, h⟩
theorem rw2 {K : PySem.W.Frag} {f : Fm} {B H : Hp} {o o' : Ov} {xs : List V} (r : Paired (RpW K f B H) [o, o'] xs) : ∃ x y, xs = [x, y] ∧ RpW K f B H o x ∧ RpW K f B H o' y := by
  cases r with
  | cons h t =>
    obtain ⟨y, e, q⟩ := rw1 t
    subst e
    exact ⟨_, _, rfl, h, q⟩
theorem cb_len : CallR X (.builtin "len") (VN X.K ca (opBi .len)) := by
  intro pins s σ H xs us Q I r ⟨S, f, B, os, si, pr, p⟩
  unfold opBi at p
  split at p <;> (first | (rename_i h; cases h; done) | skip)
  · obtain ⟨y, rfl, q⟩ := rw1 pr
    cases rw_str q
    obtain ⟨c, p⟩ := postV_okIf p
    exact call_len_str pins s σ H _ us Q I r ⟨_, rfl, c, p.same si (by simp only [Rp])⟩
  · obtain ⟨y, rfl, q⟩ := rw1 pr
    obtain ⟨a, vs, rfl, h, z⟩ := rw_tup si q
    exact call_len_seq pins s σ H _ us Q I r ⟨a, vs, rfl, .inr h, p.same si (by simp only [Rp, z.len])⟩
  · obtain ⟨y, rfl, q⟩ := rw1 pr
    split at p
    · rename_i xs e
      obtain ⟨a, vs, rfl, h, z⟩ := seqRd_ok si q e
      exact call_len_seq pins s σ H _ us Q I r ⟨a, vs, rfl, .inl h, p.same si (by simp only [Rp, z.len])⟩
    · exact p.elim
  all_goals exact p.elim
theorem cb_abs : CallR X (.builtin "abs") (VN X.K ca (opBi .abs)) := by
  intro pins s σ H xs us Q I r ⟨S, f, B, os, si, pr, p⟩
  unfold opBi at p
  split at p <;> (first | (rename_i h; cases h; done) | skip)
  · obtain ⟨y, rfl, q⟩ := rw1 pr
    cases rw_int (o := .bad) q
    exact call_abs pins s σ H _ us Q I r ⟨_, rfl, p.same si (by simp only [Rp])⟩
  all_goals exact p.elim
theorem cb_int : CallR X (.type "int") (VN X.K ca (opBi .int)) := by
  intro pins s σ H xs us Q I r ⟨S, f, B, os, si, pr, p⟩
  unfold opBi at p
  split at p <;> (first | (rename_i h; cases h; done) | skip)
  · obtain ⟨y, rfl, q⟩ := rw1 pr
    cases rw_int (o := .bad) q
    exact call_int1 pins s σ H _ us Q I r (.inl ⟨_, rfl, p.same si (by simp only [Rp])⟩)
  · obtain ⟨y, rfl, q⟩ := rw1 pr
    cases rw_bl q
    exact call_int1 pins s σ H _ us Q I r (.inr ⟨_, rfl, p.same si (by simp only [Rp])⟩)
  all_goals exact p.elim
theorem cb_max (hc : X.calm = true) : CallR X (.builtin "max") (VN X.K ca (opBi .max2)) := by
  intro pins s σ H xs us Q I r ⟨S, f, B, os, si, pr, p⟩
  unfold opBi at p
  split at p <;> (first | (rename_i h; cases h; done) | skip)
  · obtain ⟨y, z, rfl, q1, q2⟩ := rw2 pr
    cases rw_int (o := .bad) q1; cases rw_int (o := .bad) q2
    exact call_max2 hc pins s σ H _ us Q I r ⟨_, _, rfl, p.same si (by simp only [Rp])⟩
  all_goals exact p.elim
theorem cb_min (hc : X.calm = true) : CallR X (.builtin "min") (VN X.K ca (opBi .min2)) := by
  intro pins s σ H xs us Q I r ⟨S, f, B, os, si, pr, p⟩
  unfold opBi at p
  split at p <;> (first | (rename_i h; cases h; done) | skip)
  · obtain ⟨y, z, rfl, q1, q2⟩ := rw2 pr
    cases rw_int (o := .bad) q1; cases rw_int (o := .bad) q2
    exact call_min2 hc pins s σ H _ us Q I r ⟨_, _, rfl, p.same si (by simp only [Rp])⟩
  all_goals exact p.elim
theorem pyOv_ref {K : PySem.W.Frag} {f : Fm} {B H : Hp} {S : Sto} {o : Ov} {v : V} {ps : List PyData} (si : Sim K ca f B H S) (r : RpW K f B H o v) (e : pyOv S o = some (.list ps)) : ∃ a, v = .ref a := by
  have h := pyOv_ok si r e
  cases h
  exact ⟨_, rfl⟩
theorem cb_repr (hg : X.A.guards = some []) (hu : X.A.units + 64 < cLine) : CallR X (.builtin "repr") (VN X.K ca (opBi .repr)) := by
  intro pins s σ H xs us Q I r ⟨S, f, B, os, si, pr, p⟩
  unfold opBi at p
  split at p <;> (first | (rename_i h; cases h; done) | skip)
  · obtain ⟨y, rfl, q⟩ := rw1 pr
    split at p
    · rename_i xs e
      obtain ⟨a, rfl⟩ := pyOv_ref si q e
      obtain ⟨⟨c1, c0, c2, c3⟩, p⟩ := postV_okIf p
      exact call_reprG hg pins s σ H _ us Q I r ⟨a, _, rfl, pyOv_ok si q e, c1, c0, by omega, c3, p.same si (by simp only [Rp])⟩
    · exact p.elim
  all_goals exact p.elim
theorem se_biB {id : String} {bi : Bi} (hc : CallR X (.builtin id) (VN X.K ca (opBi bi))) (gx : Gl X x) (mx : X.mg x = none) (hv : bootBuiltins x = some (.builtin id)) (ha : PA X (ea :: es) (RA X ca W P l)) (h1 : x ≠ "__name__") (h2 : (x == ("__debug__" : Str)) = false)
    (st : starEach (ea :: es) X.env = (false, eval ea X.env) :: starEach es X.env) (bt : (backTo pos (starEach es X.env)).any (·.1) = false) : PE X (.Call (.Name x p) (ea :: es) [] pos) (RE X ca W P (.bi bi l)) :=
  (pe_callB hc gx mx hv ha h1 h2 st bt).imp fun σ H Q h => many (h.of fun ρ S => evE_bi)
theorem se_biT {id : String} {bi : Bi} (hc : CallR X (.type id) (VN X.K ca (opBi bi))) (gx : Gl X x) (mx : X.mg x = none) (hv : bootBuiltins x = some (.type id)) (ha : PA X (ea :: es) (RA X ca W P l)) (h1 : x ≠ "__name__") (h2 : (x == ("__debug__" : Str)) = false)
    (st : starEach (ea :: es) X.env = (false, eval ea X.env) :: starEach es X.env) (bt : (backTo pos (starEach es X.env)).any (·.1) = false) : PE X (.Call (.Name x p) (ea :: es) [] pos) (RE X ca W P (.bi bi l)) :=
  (pe_callTy hc gx mx hv ha h1 h2 st bt).imp fun σ H Q h => many (h.of fun ρ S => evE_bi)
/-! ### fields -/
theorem se_fld {c : Nat} (cl : Cls X.K (ca c)) (na : NoAttr X.K (ca c) x) (ha : PE X ea (RE X ca W P a)) (hb : attributeBase ea x X.env (eval ea X.env) = eval ea X.env) : PE X (.Attribute ea x pos) (RE X ca W P (.fld c a x)) :=
  (pe_fld ha hb).imp fun σ H Q h => by
    obtain ⟨ρ, S, f, B, at_, q⟩ := one (r1 := opFld c x) (h.of fun ρ S => evE_fld)
    refine ⟨ρ, S, f, B, at_, q.imp fun v H1 ⟨S1, f1, B1, o, s1, r, p⟩ => ?_⟩
    unfold opFld at p
    split at p
    · rename_i n
      split at p
      · rename_i k fs e
        by_cases hk : k = c
        · subst hk
          rw [if_pos rfl] at p
          split at p
          · rename_i d el
            have r : Rp X.K f1 B1 (.obj n) v := r
            simp only [Rp] at r
            obtain ⟨y, ey, rfl⟩ := r
            obtain ⟨_, dx, vs, hh, z⟩ := s1.live e ey
            obtain ⟨w, e1, e2⟩ := z.look.1 d el
            exact ⟨y, _, dx, vs, w, rfl, hh, cl, na, e1, p.same s1 e2⟩
          · exact p.elim
        · rw [if_neg hk] at p; exact p.elim
      · exact p.elim
    · exact p.elim
end
end Mx
end

section
set_option maxRecDepth 100000
set_option maxHeartbeats 4000000
/-! Mx13: statements: the language, the evaluator, growth over statements. -/
namespace Mx
open PySem PySem.Spec PyProof.Rows L2

inductive Sx where
  | skip | seq (a b : Sx)
  | set (i : Nat) (e : Ex) | own (i : Nat) (e : Ex) | par (i j : Nat) (a b : Ex) | unp (l : List Nat) (e : Ex)
  | ret (e : Ex) | retO (e : Ex) | ifS (t : Ex) (a b : Sx) | forS (t : Tg) (it : Ex) (b : Sx) | whil (t : Ex) (b : Sx)
  | brk | cnt | stIx (o i e : Ex) | stV (i : Nat) (k e : Ex) | app (i : Nat) (e : Ex) | appO (o e : Ex) | drop (e : Ex) | frz (i : Nat)
inductive Out where
  | next (ρ : List Sl) (S : Sto) | ret (d : D) (S : Sto) | brk (ρ : List Sl) (S : Sto) | cnt (ρ : List Sl) (S : Sto)
  | exc (c : Nat) (fs : List (Str × D)) (ρ : List Sl) (S : Sto) | stuck
/-- a statement's first part -/
def Res.then {α : Type} (r : Res α) (ρ : List Sl) (k : α → Sto → Out) : Out := match r with
  | .ok a S => k a S
  | .exc c fs S => .exc c fs ρ S
  | .stuck => .stuck
open Classical in
noncomputable def forL (still : Sto → Prop) (asg : D → List Sl → Option (List Sl)) (body : List Sl → Sto → Out) : List D → List Sl → Sto → Out
  | [], ρ, S => if still S then .next ρ S else .stuck
  | x :: xs, ρ, S => if still S then (match asg x ρ with
    | some ρ1 => (match body ρ1 S with
      | .next ρ2 S2 => forL still asg body xs ρ2 S2
      | .cnt ρ2 S2 => forL still asg body xs ρ2 S2
      | .brk ρ2 S2 => .next ρ2 S2
      | .ret d S2 => .ret d S2
      | .exc c fs ρ2 S2 => .exc c fs ρ2 S2
      | .stuck => .stuck)
    | none => .stuck) else .stuck
def whileL (t : List Sl → Sto → Res Bool) (body : List Sl → Sto → Out) : Nat → List Sl → Sto → Out
  | 0, _, _ => .stuck
  | n + 1, ρ, S => (t ρ S).then ρ fun b S1 => if b = true then (match body ρ S1 with
      | .next ρ2 S2 => whileL t body n ρ2 S2
      | .cnt ρ2 S2 => whileL t body n ρ2 S2
      | .brk ρ2 S2 => .next ρ2 S2
      | .ret d S2 => .ret d S2
      | .exc c fs ρ2 S2 => .exc c fs ρ2 S2
      | .stuck => .stuck)
    else .next ρ S1
/-- all own lists and dicts are frozen (at a return) -/
def frzSl : Sl → Sl
  | .own (.lst ds) => .val (.lst ds)
  | .own (.dic kvs) => .val (.dic kvs)
  | .own _ => .no
  | s => s
def setL (k : Int) (d : D) (ds : List D) : Option (List D) := match ixN ds.length k with
  | some j => some (ds.set j d)
  | none => none
def appL (d : D) (ds : List D) : Option (List D) := if ds.length < sizeLine then some (ds ++ [d]) else none
/-- a list is written -/
def wrL (g : List D → Option (List D)) (x : D) (ρ : List Sl) (S : Sto) : Out := match x with
  | .obj n => match S[n]? with
    | some (some (.lst ds)) => match g ds with
      | some es => .next ρ (S.set n (some (.lst es)))
      | none => .stuck
    | _ => .stuck
  | _ => .stuck
/-- an own list is written -/
def wrO (g : List D → Option (List D)) (k : Nat) (ρ : List Sl) (S : Sto) : Out := match ρ[k]? with
  | some (.own (.lst ds)) => match g ds with
    | some es => .next (ρ.set k (.own (.lst es))) S
    | none => .stuck
  | _ => .stuck
def isO (k : Nat) (ρ : List Sl) : Bool := match ρ[k]? with
  | some (.own (.lst _)) => true
  | _ => false
def isL (x : D) (S : Sto) : Bool := match x with
  | .obj n => match S[n]? with
    | some (some (.lst _)) => true
    | _ => false
  | _ => false
/-- the fuel of a while -/
def fuel : Nat := 1000000
noncomputable def evS (P : PrX) : Sx → List Sl → Sto → Out
  | .skip, ρ, S => .next ρ S
  | .seq a b, ρ, S => match evS P a ρ S with
    | .next ρ1 S1 => evS P b ρ1 S1
    | o => o
  | .set i e, ρ, S => (evE P ρ e S).then ρ fun d S1 => if plainD d = true then .next (ρ.set i (.val d)) S1 else .stuck
  | .own i e, ρ, S => (evL P ρ e S).then ρ fun ds S1 => .next (ρ.set i (.own (.lst ds))) S1
  | .par i j a b, ρ, S => (evA P ρ (.cons a (.cons b .nil)) S).then ρ fun ds S2 => match ds with
    | [x, y] => if plainD x = true ∧ plainD y = true then .next ((ρ.set i (.val x)).set j (.val y)) S2 else .stuck
    | _ => .stuck
  | .unp l e, ρ, S => (evE P ρ e S).then ρ fun d S1 => match asgT (.tup l) d ρ with
    | some ρ1 => .next ρ1 S1
    | none => .stuck
  | .ret e, ρ, S => match evE P (ρ.map frzSl) e S with
    | .ok d S1 => .ret d S1
    | .exc c fs S1 => .exc c fs (ρ.map frzSl) S1
    | .stuck => .stuck
  | .retO e, ρ, S => (evL P ρ e S).then ρ fun ds S1 => .ret (.obj S1.length) (S1 ++ [some (.lst ds)])
  | .ifS t a b, ρ, S => (evT P ρ t S).then ρ fun c S1 => if c = true then evS P a ρ S1 else evS P b ρ S1
  | .forS t it b, ρ, S => (evI P ρ it S).then ρ fun i S1 => if i.own = false then forL i.Still (asgT t) (evS P b) i.ds ρ S1 else .stuck
  | .whil t b, ρ, S => whileL (fun ρ S => evT P ρ t S) (evS P b) fuel ρ S
  | .brk, ρ, S => .brk ρ S
  | .cnt, ρ, S => .cnt ρ S
  | .stIx o i e, ρ, S => (evE P ρ e S).then ρ fun d S1 => (evE P ρ o S1).then ρ fun x S2 => (evE P ρ i S2).then ρ fun y S3 => match y with
    | .int k => if plainD d = true then wrL (setL k d) x ρ S3 else .stuck
    | _ => .stuck
  | .stV i k e, ρ, S => (evE P ρ e S).then ρ fun d S1 => if isO i ρ = true then (evE P ρ k S1).then ρ fun y S2 => match y with
    | .int k => if plainD d = true then wrO (setL k d) i ρ S2 else .stuck
    | _ => .stuck
   else .stuck
  | .app i e, ρ, S => if isO i ρ = true then (evE P ρ e S).then ρ fun d S1 => if plainD d = true then wrO (appL d) i ρ S1 else .stuck else .stuck
  | .appO o e, ρ, S => (evE P ρ o S).then ρ fun x S1 => if isL x S1 = true then (evE P ρ e S1).then ρ fun d S2 => if plainD d = true then wrL (appL d) x ρ S2 else .stuck else .stuck
  | .drop e, ρ, S => (evE P ρ e S).then ρ fun _ S1 => .next ρ S1
  | .frz i, ρ, S => match ρ[i]? with
    | some s => .next (ρ.set i (frzSl s)) S
    | none => .stuck

/-! ### growth over statements -/
def Ow (ρ : List Sl) (σ : L2.St) (a : Addr) : Prop := ∃ (i : Nat) (o : O), ρ[i]? = some (.own o) ∧ σ[i]? = some (some (V.ref a))
structure Gs (f : Fm) (B H : Hp) (ρ : List Sl) (σ : L2.St) (f' : Fm) (B' H' : Hp) (ρ' : List Sl) (σ' : L2.St) : Prop where
  fx : Fx f f'
  bx : Hx B B'
  fr : ∀ a o, H a = some o → (∀ n, f n ≠ some a) → ¬ Ow ρ σ a → H' a = some o ∧ (∀ n, f' n ≠ some a) ∧ B' a = B a ∧ ¬ Ow ρ' σ' a
section
variable {f f' f1 f2 : Fm} {B B' B1 B2 H H' H1 H2 : Hp} {ρ ρ' ρ1 ρ2 : List Sl} {σ σ' σ1 σ2 : L2.St}
theorem Gs.refl : Gs f B H ρ σ f B H ρ σ := ⟨.refl f, .refl B, fun a o e n w => ⟨e, n, rfl, w⟩⟩
theorem Gs.trans (a : Gs f B H ρ σ f1 B1 H1 ρ1 σ1) (b : Gs f1 B1 H1 ρ1 σ1 f2 B2 H2 ρ2 σ2) : Gs f B H ρ σ f2 B2 H2 ρ2 σ2 :=
  ⟨a.fx.trans b.fx, a.bx.trans b.bx, fun x o e n w => by
    obtain ⟨e1, n1, b1, w1⟩ := a.fr x o e n w
    obtain ⟨e2, n2, b2, w2⟩ := b.fr x o e1 n1 w1
    exact ⟨e2, n2, b2.trans b1, w2⟩⟩
theorem Gw.gs (g : Gw f B H f' B' H') (hw : ∀ a, Ow ρ' σ' a → Ow ρ σ a ∨ H a = none) : Gs f B H ρ σ f' B' H' ρ' σ' :=
  ⟨g.fx, g.bx, fun a o e n w => by
    obtain ⟨e1, n1, b1⟩ := g.fr a o e n
    exact ⟨e1, n1, b1, fun z => (hw a z).elim w fun q => by rw [q] at e; cases e⟩⟩
end
section
variable (K : PySem.W.Frag) (ca : Nat → Addr) (W : WX)
def PostS (Dn : Ends) (ρ : List Sl) (σ : L2.St) (f : Fm) (B H : Hp) : Out → Prop
  | .next ρ' S' => ∀ f' B' H' σ', Gs f B H ρ σ f' B' H' ρ' σ' → At K ca ρ' S' f' B' σ' H' → Dn.nx σ' H'
  | .brk ρ' S' => ∀ f' B' H' σ', Gs f B H ρ σ f' B' H' ρ' σ' → At K ca ρ' S' f' B' σ' H' → Dn.bk σ' H'
  | .cnt ρ' S' => ∀ f' B' H' σ', Gs f B H ρ σ f' B' H' ρ' σ' → At K ca ρ' S' f' B' σ' H' → Dn.ct σ' H'
  | .ret d S' => ∀ f' B' H' v, Gs f B H ρ σ f' B' H' [] [] → Sim K ca f' B' H' S' → Rp K f' B' d v → Dn.rt v H'
  | .exc c fs ρ' S' => ∀ f' B' H' dd σ', Gs f B H ρ σ f' B' H' ρ' σ' → EnvR K f' B' H' ρ' σ' → Sim K ca f' B' H' S' → Xd K f' B' H' fs dd → W (.ref (ca c)) dd σ' H'
  | .stuck => False
def rdS (r : List Sl → Sto → Out) : TS := fun Dn σ H => ∃ ρ S f B, At K ca ρ S f B σ H ∧ PostS K ca W Dn ρ σ f B H (r ρ S)
end
section
variable {K : PySem.W.Frag} {ca : Nat → Addr} {W : WX} {f f' f1 : Fm} {B B' B1 H H' H1 : Hp} {ρ ρ' ρ1 : List Sl} {σ σ' σ1 : L2.St} {S S' : Sto} {Dn : Ends}
theorem PostS.gs (g : Gs f B H ρ σ f1 B1 H1 ρ1 σ1) {o : Out} (h : PostS K ca W Dn ρ σ f B H o) : PostS K ca W Dn ρ1 σ1 f1 B1 H1 o := by
  cases o with
  | next ρ' S' => exact fun f' B' H' σ' g' a => h f' B' H' σ' (g.trans g') a
  | brk ρ' S' => exact fun f' B' H' σ' g' a => h f' B' H' σ' (g.trans g') a
  | cnt ρ' S' => exact fun f' B' H' σ' g' a => h f' B' H' σ' (g.trans g') a
  | ret d S' => exact fun f' B' H' v g' a => h f' B' H' v (g.trans g') a
  | exc c fs ρ' S' => exact fun f' B' H' dd σ' g' => h f' B' H' dd σ' (g.trans g')
  | stuck => exact h
theorem ow_same : ∀ a, Ow ρ σ a → Ow ρ σ a ∨ H a = none := fun _ => .inl
/-- the first part of a statement is an expression -/
theorem PostS.then {α β : Type} {R : Fm → Hp → Hp → α → β → Prop} {r : Res α} {k : α → Sto → Out} (en : EnvR K f B H ρ σ) (h : PostS K ca W Dn ρ σ f B H (r.then ρ k)) :
    Post K ca W R σ f B H (fun v H1 => ∃ a S1 f1 B1, Gw f B H f1 B1 H1 ∧ Sim K ca f1 B1 H1 S1 ∧ R f1 B1 H1 a v ∧ PostS K ca W Dn ρ σ f1 B1 H1 (k a S1)) r := by
  cases r with
  | ok a S1 => exact fun f1 B1 H1 v g s r => ⟨a, S1, f1, B1, g, s, r, PostS.gs (o := k a S1) (g.gs ow_same) h⟩
  | exc c fs S1 => exact fun f' B' H' dd g s x => h f' B' H' dd σ (g.gs ow_same) (en.gw g) s x
  | stuck => exact h
theorem PostS.thenL {r : Res (List D)} {k : List D → Sto → Out} (en : EnvR K f B H ρ σ) (h : PostS K ca W Dn ρ σ f B H (r.then ρ k)) :
    PostL K ca W σ f B H (fun v H1 => ∃ ds S1 f1 B1 p vs, v = .ref p ∧ Gw f B H f1 B1 H1 ∧ Sim K ca f1 B1 H1 S1 ∧ H p = none ∧ B1 p = none ∧ (∀ n, f1 n ≠ some p) ∧ H1 p = some (.lst vs) ∧ RpA K f1 B1 ds vs ∧ PostS K ca W Dn ρ σ f B H (k ds S1)) r := by
  cases r with
  | ok ds S1 => exact fun f1 B1 H1 p vs g s h0 h1 h2 h3 h4 => ⟨ds, S1, f1, B1, p, vs, rfl, g, s, h0, h1, h2, h3, h4, h⟩
  | exc c fs S1 => exact fun f' B' H' dd g s x => h f' B' H' dd σ (g.gs ow_same) (en.gw g) s x
  | stuck => exact h
theorem ow_setV {i : Nat} {d : D} {x : Option V} (hl : ρ.length = σ.length) {a : Addr} (w : Ow (ρ.set i (.val d)) (σ.set i x) a) : Ow ρ σ a := by
  obtain ⟨j, o, e1, e2⟩ := w
  rw [getS] at e1 e2
  by_cases c : i = j ∧ j < ρ.length
  · rw [if_pos c] at e1; cases e1
  · rw [if_neg c] at e1
    rw [if_neg (by rw [← hl]; exact c)] at e2
    exact ⟨j, o, e1, e2⟩
/-- a name is set to data -/
theorem At.setV {i : Nat} {d : D} {v : V} (a : At K ca ρ S f B σ H) (r : Rp K f B d v) : At K ca (ρ.set i (.val d)) S f B (σ.set i (some v)) H ∧ Gs f B H ρ σ f B H (ρ.set i (.val d)) (σ.set i (some v)) :=
  ⟨⟨a.en.setV r, a.si⟩, (Gw.refl ..).gs fun x w => .inl (ow_setV a.en.len w)⟩
theorem gNs_ow {l0 : List Nat} : ∀ {l : List Nat} {ds : List D} {ρ ρ' : List Sl}, setAll ρ l ds = some ρ' → ∀ j o, ρ'[j]? = some (.own o) → ρ[j]? = some (.own o) ∧ j ∉ l
  | [], [], _, _, e, j, o, q => by cases e; exact ⟨q, by simp⟩
  | [], _ :: _, _, _, e, _, _, _ => by cases e
  | _ :: _, [], _, _, e, _, _, _ => by cases e
  | i :: l, d :: ds, ρ, ρ', e, j, o, q => by
    obtain ⟨q1, q2⟩ := gNs_ow (l0 := l0) (show setAll (ρ.set i (.val d)) l ds = some ρ' from e) j o q
    rw [getS] at q1
    by_cases c : i = j ∧ j < ρ.length
    · rw [if_pos c] at q1; cases q1
    · rw [if_neg c] at q1
      refine ⟨q1, fun z => ?_⟩
      rcases List.mem_cons.mp z with z | z
      · exact c ⟨z.symm, (List.getElem?_eq_some_iff.mp q1).1⟩
      · exact q2 z
theorem asgT_ow {t : Tg} {d : D} (e : asgT t d ρ = some ρ') {j : Nat} {o : O} (q : ρ'[j]? = some (.own o)) : ρ[j]? = some (.own o) ∧ j ∉ t.slots := by
  cases t with
  | name i =>
    cases e
    rw [getS] at q
    by_cases c : i = j ∧ j < ρ.length
    · rw [if_pos c] at q; cases q
    · rw [if_neg c] at q
      exact ⟨q, fun z => c ⟨(List.mem_singleton.mp z).symm, (List.getElem?_eq_some_iff.mp q).1⟩⟩
  | tup l =>
    cases d with
    | tup ds =>
      simp only [asgT] at e
      by_cases hl : ds.length = l.length
      · rw [if_pos hl] at e; exact gNs_ow (l0 := l) e j o q
      · rw [if_neg hl] at e; cases e
    | _ => cases e
/-- a target is set -/
theorem At.asg {t : Tg} {d : D} {v : V} {Q : L2.St → Hp → Prop} (a : At K ca ρ S f B σ H) (r : Rp K f B d v) (e : asgT t d ρ = some ρ') (k : ∀ σ', At K ca ρ' S f B σ' H → Gs f B H ρ σ f B H ρ' σ' → Q σ' H) : gT K t v σ H Q :=
  asgT_ok a.si.ex a.en r e fun σ' en b => k σ' ⟨en, a.si⟩ ((Gw.refl ..).gs fun x ⟨j, o, e1, e2⟩ => by
    obtain ⟨q1, q2⟩ := asgT_ow e e1
    exact .inl ⟨j, o, q1, by rw [← b.2 j q2]; exact e2⟩)
end
end Mx
end

section
set_option maxRecDepth 100000
set_option maxHeartbeats 4000000
/-! Mx14: statements are sound. -/
namespace Mx
open PySem PySem.Spec PyProof.Rows L2
section
variable {K : PySem.W.Frag} {ca : Nat → Addr} {W : WX} {f f' f1 : Fm} {B B' B1 H H' H1 : Hp} {ρ ρ' ρ1 : List Sl} {σ σ' σ1 : L2.St} {S S' : Sto} {Dn : Ends}
theorem EnvR.setO {i : Nat} {o : O} {p : Addr} (h : EnvR K f B H ρ σ) (r : RpC K f B H p o) (np : ∀ a, Ow ρ σ a → a ≠ p) : EnvR K f B H (ρ.set i (.own o)) (σ.set i (some (V.ref p))) := by
  refine ⟨by simp [h.len], fun j e q => ?_, fun j u q => ?_, fun j k u w a q1 q2 e1 e2 => ?_⟩
  · rw [getS] at q
    rw [getS, ← h.len]
    by_cases c : i = j ∧ j < ρ.length
    · rw [if_pos c] at q; cases q
    · rw [if_neg c] at q ⊢; exact h.val j e q
  · rw [getS] at q
    rw [getS, ← h.len]
    by_cases c : i = j ∧ j < ρ.length
    · rw [if_pos c] at q ⊢; cases q; exact ⟨p, rfl, r⟩
    · rw [if_neg c] at q ⊢; exact h.own j u q
  · rw [getS] at q1 q2 e1 e2
    rw [← h.len] at e1 e2
    by_cases c1 : i = j ∧ j < ρ.length
    · by_cases c2 : i = k ∧ k < ρ.length
      · rw [← c1.1, ← c2.1]
      · rw [if_pos c1] at e1
        rw [if_neg c2] at q2 e2
        have e1 : p = a := by injection e1 with e1; injection e1 with e1; injection e1
        exact absurd e1.symm (np a ⟨k, w, q2, e2⟩)
    · by_cases c2 : i = k ∧ k < ρ.length
      · rw [if_pos c2] at e2
        rw [if_neg c1] at q1 e1
        have e2 : p = a := by injection e2 with e2; injection e2 with e2; injection e2
        exact absurd e2.symm (np a ⟨j, u, q1, e1⟩)
      · rw [if_neg c1] at q1 e1
        rw [if_neg c2] at q2 e2
        exact h.inj j k u w a q1 q2 e1 e2
theorem EnvR.ow_there (h : EnvR K f B H ρ σ) {a : Addr} (w : Ow ρ σ a) : B a = none ∧ (∀ n, f n ≠ some a) ∧ ∃ u, H a = some u := by
  obtain ⟨i, o, e1, e2⟩ := w
  obtain ⟨b, e3, r⟩ := h.own i o e1
  rw [e2] at e3
  cases e3
  exact r.at
theorem ow_setO {i : Nat} {o : O} {p : Addr} (hl : ρ.length = σ.length) {a : Addr} (w : Ow (ρ.set i (.own o)) (σ.set i (some (V.ref p))) a) : Ow ρ σ a ∨ a = p := by
  obtain ⟨j, u, e1, e2⟩ := w
  rw [getS] at e1 e2
  rw [← hl] at e2
  by_cases c : i = j ∧ j < ρ.length
  · rw [if_pos c] at e2
    injection e2 with e2; injection e2 with e2; injection e2 with e2
    exact .inr e2.symm
  · rw [if_neg c] at e1 e2
    exact .inl ⟨j, u, e1, e2⟩
theorem set_rd {i : Nat} {e : Ex} {P : PrX} {X : Cx} {Dn : Ends} {σ : L2.St} {H : Hp} (h : rdS X.K ca W (fun ρ S => evS P (.set i e) ρ S) Dn σ H) : tAsg (RE X ca W P e) (gName i) Dn σ H := by
  obtain ⟨ρ, S, f, B, a, p⟩ := h
  simp only [evS] at p
  refine ⟨ρ, S, f, B, a, (p.then a.en).imp fun v H1 ⟨d, S1, f1, B1, g, s, r, q⟩ => ?_⟩
  by_cases hp : plainD d = true
  · rw [if_pos hp] at q
    have r : RpW X.K f1 B1 H1 (rs ρ d) v := r
    rw [plain_d hp] at r
    obtain ⟨a2, g2⟩ := (a.gw g s).setV (i := i) r
    exact q _ _ _ _ g2 a2
  · rw [if_neg hp] at q; exact q.elim
theorem set_rdL {i : Nat} {e : Ex} {P : PrX} {X : Cx} {Dn : Ends} {σ : L2.St} {H : Hp} (he : ∀ ρ S, evE P ρ e S = (evL P ρ e S).bind fun ds S1 => .ok (.lst ds) S1) (h : rdS X.K ca W (fun ρ S => evS P (.set i e) ρ S) Dn σ H) : tAsg (RL X ca W P e) (gName i) Dn σ H :=
  rdE.lst ((set_rd h : RE X ca W P e σ H _).of he)
theorem own_rd {i : Nat} {e : Ex} {P : PrX} {X : Cx} {Dn : Ends} {σ : L2.St} {H : Hp} (h : rdS X.K ca W (fun ρ S => evS P (.own i e) ρ S) Dn σ H) : tAsg (RL X ca W P e) (gName i) Dn σ H := by
  obtain ⟨ρ, S, f, B, a, p⟩ := h
  simp only [evS] at p
  refine ⟨ρ, S, f, B, a, ?_⟩
  have p := p.thenL a.en
  dsimp only at p ⊢
  cases e1 : evL P ρ e S with
  | stuck => rw [e1] at p; exact p
  | exc c fs S1 => rw [e1] at p; exact p
  | ok ds S1 =>
    rw [e1] at p
    intro f1 B1 H1 q vs g s h0 h1 h2 h3 h4
    obtain ⟨ds', S1', f1', B1', p', vs', e', g', s', k0, k1, k2, k3, k4, post⟩ := p f1 B1 H1 q vs g s h0 h1 h2 h3 h4
    cases e'
    have np : ∀ x, Ow ρ σ x → x ≠ q := fun x w z => by
      obtain ⟨_, _, u, hu⟩ := a.en.ow_there w
      rw [z, h0] at hu; cases hu
    have en := a.en.gw g'
    refine post _ _ _ _ (g'.gs fun x w => ?_) ⟨en.setO (o := .lst ds') ⟨k1, k2, vs', k3, k4⟩ np, s'⟩
    rcases ow_setO en.len w with w | w
    · exact .inl w
    · exact .inr (by rw [w]; exact h0)
/-! ### freezing at a return -/
open Classical in
/-- the own cells join the frozen ones -/
noncomputable def frB (ρ : List Sl) (σ : L2.St) (B H : Hp) : Hp := fun a => if Ow ρ σ a then H a else B a
theorem frB_ow {a : Addr} (w : Ow ρ σ a) : frB ρ σ B H a = H a := if_pos w
theorem frB_no {a : Addr} (w : ¬ Ow ρ σ a) : frB ρ σ B H a = B a := if_neg w
theorem EnvR.frx (h : EnvR K f B H ρ σ) : Hx B (frB ρ σ B H) := fun a o e => by
  by_cases w : Ow ρ σ a
  · rw [(h.ow_there w).1] at e; cases e
  · rw [frB_no w]; exact e
theorem frz_get {i : Nat} {x : Sl} (q : (ρ.map frzSl)[i]? = some x) : ∃ y, ρ[i]? = some y ∧ x = frzSl y := by
  rw [List.getElem?_map] at q
  cases e : ρ[i]? with
  | none => rw [e] at q; cases q
  | some y => rw [e] at q; cases q; exact ⟨y, rfl, rfl⟩
theorem At.frz (a : At K ca ρ S f B σ H) : At K ca (ρ.map frzSl) S f (frB ρ σ B H) σ H ∧ Gs f B H ρ σ f (frB ρ σ B H) H (ρ.map frzSl) σ := by
  have hx := a.en.frx
  have noown : ∀ (i : Nat) (o : O), (ρ.map frzSl)[i]? ≠ some (.own o) := fun i o q => by
    obtain ⟨y, _, e⟩ := frz_get q
    cases y with
    | no => cases e
    | val d => cases e
    | own u => cases u <;> cases e
  refine ⟨⟨⟨by rw [List.length_map]; exact a.en.len, fun i d q => ?_, fun i o q => absurd q (noown i o), fun i j o u x q => absurd q (noown i o)⟩, ⟨fun x o e => ?_, a.si.dom, fun n o e => ?_, a.si.all, a.si.inj⟩⟩, ⟨.refl f, hx, fun x o e n w => ⟨e, n, frB_no w, fun ⟨i, u, q, _⟩ => noown i u q⟩⟩⟩
  · obtain ⟨y, e1, e2⟩ := frz_get q
    cases y with
    | no => cases e2
    | val d' =>
      cases e2
      obtain ⟨v, e3, r⟩ := a.en.val i _ e1
      exact ⟨v, e3, r.mono (.refl f) hx⟩
    | own u =>
      obtain ⟨x, e3, r⟩ := a.en.own i u e1
      have w : Ow ρ σ x := ⟨i, u, e1, e3⟩
      cases u with
      | lst ds =>
        cases e2
        obtain ⟨_, _, vs, q1, q2⟩ := r
        refine ⟨_, e3, ?_⟩
        simp only [Rp]
        exact ⟨x, vs, rfl, by rw [frB_ow w]; exact q1, q2.mono (.refl f) hx⟩
      | dic ds =>
        cases e2
        obtain ⟨_, _, vs, q1, q2⟩ := r
        refine ⟨_, e3, ?_⟩
        simp only [Rp]
        exact ⟨x, vs, rfl, by rw [frB_ow w]; exact q1, RpK.toF.mpr (q2.mono (.refl f) hx)⟩
      | _ => cases e2
  · by_cases w : Ow ρ σ x
    · rw [frB_ow w] at e; exact e
    · rw [frB_no w] at e; exact a.si.ex x o e
  · obtain ⟨x, ex, bx, r⟩ := a.si.cell n o e
    have nw : ¬ Ow ρ σ x := fun w => (a.en.ow_there w).2.1 n ex
    refine ⟨x, ex, by rw [frB_no nw]; exact bx, r.bx hx fun d vs z1 z2 => ?_⟩
    by_cases w : Ow ρ σ d
    · obtain ⟨i, u, q1, q2⟩ := w
      obtain ⟨y, q3, rc⟩ := a.en.own i u q1
      rw [q2] at q3; cases q3
      cases u with
      | lst ds => obtain ⟨_, _, ws, q4, _⟩ := rc; rw [z1] at q4; exact absurd (Option.some.inj q4).symm (lst_exd d vs)
      | dic ds => obtain ⟨_, _, ws, q4, _⟩ := rc; rw [z1] at q4; exact absurd (Option.some.inj q4).symm (dK_exd d vs)
      | dit ds =>
        obtain ⟨_, _, ws, q4, _⟩ := rc
        rw [z1] at q4
        have z : HO.ext _ = HO.dT ws := Option.some.inj q4
        cases z
      | ins c fs => exact rc.elim
      | exc c fs => exact rc.elim
    · rw [frB_no w]; exact z2
theorem Gs.drop {ρ2 : List Sl} {σ2 : L2.St} (g : Gs f B H ρ σ f1 B1 H1 ρ1 σ1) (h : ∀ (i : Nat) (o : O), ρ2[i]? ≠ some (.own o)) : Gs f B H ρ σ f1 B1 H1 ρ2 σ2 := ⟨g.fx, g.bx, fun a o e n w => by
  obtain ⟨e1, n1, b1, _⟩ := g.fr a o e n w
  exact ⟨e1, n1, b1, fun ⟨i, u, q, _⟩ => h i u q⟩⟩
theorem ret_rd {e : Ex} {P : PrX} {X : Cx} {Dn : Ends} {σ : L2.St} {H : Hp} (h : rdS X.K ca W (fun ρ S => evS P (.ret e) ρ S) Dn σ H) : tRet (RE X ca W P e) Dn σ H := by
  obtain ⟨ρ, S, f, B, a, p⟩ := h
  simp only [evS] at p
  obtain ⟨a2, g2⟩ := a.frz
  refine ⟨ρ.map frzSl, S, f, _, a2, ?_⟩
  have nov : ∀ (i : Nat) (o : O), (ρ.map frzSl)[i]? ≠ some (.own o) := fun i o q => by
    obtain ⟨y, _, e⟩ := frz_get q
    cases y with
    | no => cases e
    | val d => cases e
    | own u => cases u <;> cases e
  dsimp only at p ⊢
  cases e1 : evE P (ρ.map frzSl) e S with
  | stuck => rw [e1] at p; exact p
  | exc c fs S1 =>
    rw [e1] at p
    dsimp only at p
    exact fun f1 B1 H1 dd g s x => p f1 B1 H1 dd σ (g2.trans (g.gs ow_same)) (a2.en.gw g) s x
  | ok d S1 =>
    rw [e1] at p
    dsimp only at p
    intro f1 B1 H1 v g s r
    have r : RpW X.K f1 B1 H1 (rs (ρ.map frzSl) d) v := r
    refine p f1 B1 H1 v ((g2.trans (g.gs ow_same)).drop fun i o q => by simp at q) s ?_
    cases d with
    | loc i =>
      simp only [rs] at r
      split at r
      · exact absurd (by assumption) (nov i _)
      · exact r
    | _ => exact r
end
end Mx
end

section
set_option maxRecDepth 100000
set_option maxHeartbeats 4000000
/-! Mx15: statements are sound (2). -/
namespace Mx
open PySem PySem.Spec PyProof.Rows L2
abbrev RS (X : Cx) (ca : Nat → Addr) (W : WX) (P : PrX) (s : Sx) : TS := rdS X.K ca W (evS P s)
section
variable {K : PySem.W.Frag} {ca : Nat → Addr} {W : WX} {f f' f1 : Fm} {B B' B1 H H' H1 : Hp} {ρ ρ' ρ1 : List Sl} {σ σ' σ1 : L2.St} {S S' : Sto} {Dn : Ends} {P : PrX} {X : Cx} {a b : Ex} {s u : Sx} {sts : List Stmt}
/-- a new object that stands already -/
theorem Sim.newAt (h : Sim K ca f B H S) {p : Addr} {o : O} {u : HO} (bp : B p = none) (fp : ∀ n, f n ≠ some p) (hp : H p = some u) (hu : ∀ d vs, u ≠ exd d vs) (r : RpO K ca (fnew f S.length p) B H p o) : Sim K ca (fnew f S.length p) B H (S ++ [some o]) := by
  have ef : Fx f (fnew f S.length p) := .new h.fdom
  refine ⟨h.ex, fun n a q => ?_, fun n w q => ?_, fun n a q => ?_, fun n m w x a q1 q2 e1 e2 => ?_⟩
  · rw [List.length_append]
    by_cases hn : n = S.length
    · rw [hn]; exact Nat.lt_succ_self _
    · rw [fnew_ne hn] at q; exact Nat.lt_succ_of_lt (h.dom n a q)
  · by_cases hn : n < S.length
    · rw [List.getElem?_append_left hn] at q
      obtain ⟨a, ea, eb, r⟩ := h.cell n w q
      refine ⟨a, ef _ _ ea, eb, ?_⟩
      cases w with
      | lst ds => obtain ⟨vs, q, r⟩ := r; exact ⟨vs, q, r.mono ef (.refl _)⟩
      | dic ds => obtain ⟨vs, q, r⟩ := r; exact ⟨vs, q, r.mono ef (.refl _)⟩
      | dit ds => obtain ⟨vs, q, r⟩ := r; exact ⟨vs, q, r.mono ef (.refl _)⟩
      | ins c fs => obtain ⟨dx, vs, q, r⟩ := r; exact ⟨dx, vs, q, r.mono ef (.refl _)⟩
      | exc c fs =>
        obtain ⟨d, vs, q, r, z⟩ := r
        refine ⟨d, vs, q, r.mono ef (.refl _), ?_⟩
        cases d with
        | none => exact z
        | some d =>
          obtain ⟨z1, z0, z2, z3⟩ := z
          refine ⟨z1, z0, z2, fun m e => ?_⟩
          by_cases hm : m = S.length
          · rw [hm, fnew_same] at e; cases e
            rw [hp] at z1; exact hu _ _ (Option.some.inj z1)
          · rw [fnew_ne hm] at e; exact z3 m e
    · have hl := (List.getElem?_eq_some_iff.mp q).1
      rw [List.length_append] at hl
      have en : n = S.length := by simp at hl; omega
      subst en
      rw [List.getElem?_append_right (Nat.le_refl _)] at q
      simp at q
      subst q
      exact ⟨p, fnew_same, bp, r⟩
  · by_cases hn : n = S.length
    · rw [hn, fnew_same] at q; cases q; exact r.there
    · rw [fnew_ne hn] at q; exact h.all n a q
  · have key : ∀ (k : Nat) (u : O), (S ++ [some o])[k]? = some (some u) → fnew f S.length p k = some a → k ≠ S.length → S[k]? = some (some u) ∧ f k = some a ∧ a ≠ p := fun k u qk ek nk => by
      rw [fnew_ne nk] at ek
      have lk := h.dom _ _ ek
      rw [List.getElem?_append_left lk] at qk
      exact ⟨qk, ek, fun z => fp k (z ▸ ek)⟩
    by_cases hn : n = S.length
    · by_cases hm : m = S.length
      · rw [hn, hm]
      · rw [hn, fnew_same] at e1
        cases e1
        exact absurd rfl (key m x q2 e2 hm).2.2
    · by_cases hm : m = S.length
      · rw [hm, fnew_same] at e2
        cases e2
        exact absurd rfl (key n w q1 e1 hn).2.2
      · obtain ⟨a1, a2, _⟩ := key n w q1 e1 hn
        obtain ⟨b1, b2, _⟩ := key m x q2 e2 hm
        exact h.inj n m w x a a1 b1 a2 b2
theorem Gs.wg (g : Gs f B H ρ σ f' B' H' ρ' σ') : Wg f B H f' B' H' := ⟨g.fx, g.bx⟩
theorem seq_rd (h : RS X ca W P (.seq s u) Dn σ H) : tSeq (RS X ca W P s) (RS X ca W P u) Dn σ H := by
  obtain ⟨ρ, S, f, B, a, p⟩ := h
  simp only [evS] at p
  refine ⟨ρ, S, f, B, a, ?_⟩
  cases e : evS P s ρ S with
  | next ρ1 S1 =>
    rw [e] at p
    exact fun f' B' H' σ' g a' => ⟨ρ1, S1, f', B', a', p.gs g⟩
  | ret d S1 => rw [e] at p; exact p
  | brk ρ1 S1 => rw [e] at p; exact p
  | cnt ρ1 S1 => rw [e] at p; exact p
  | exc c fs ρ1 S1 => rw [e] at p; exact p
  | stuck => rw [e] at p; exact p
theorem skip_rd (h : RS X ca W P .skip Dn σ H) : Dn.nx σ H := by
  obtain ⟨ρ, S, f, B, a, p⟩ := h
  simp only [evS] at p
  exact p f B H σ .refl a
theorem brk_rd (h : RS X ca W P .brk Dn σ H) : Dn.bk σ H := by
  obtain ⟨ρ, S, f, B, a, p⟩ := h
  simp only [evS] at p
  exact p f B H σ .refl a
theorem cnt_rd (h : RS X ca W P .cnt Dn σ H) : Dn.ct σ H := by
  obtain ⟨ρ, S, f, B, a, p⟩ := h
  simp only [evS] at p
  exact p f B H σ .refl a
theorem if_rd {t : Ex} (h : RS X ca W P (.ifS t s u) Dn σ H) : tIfS (RT X ca W P t) (RS X ca W P s) (RS X ca W P u) Dn σ H := by
  obtain ⟨ρ, S, f, B, a, p⟩ := h
  simp only [evS] at p
  refine ⟨ρ, S, f, B, a, (p.then a.en).imp fun v H1 ⟨d, S1, f1, B1, g, s1, r, q⟩ => ?_⟩
  have r : d = v := r
  subst r
  cases d with
  | true =>
    rw [if_pos rfl] at q ⊢
    exact ⟨ρ, S1, f1, B1, a.gw g s1, q⟩
  | false =>
    rw [if_neg Bool.false_ne_true] at q ⊢
    exact ⟨ρ, S1, f1, B1, a.gw g s1, q⟩
theorem for_rd {t : Tg} {it : Ex} (h : RS X ca W P (.forS t it s) Dn σ H) : tFor (RIt X ca W P it) (gT X.K t) (RS X ca W P s) Dn σ H := by
  obtain ⟨ρ, S, f, B, a, p⟩ := h
  simp only [evS] at p
  refine ⟨ρ, S, f, B, a, (p.then a.en).imp fun J H1 ⟨i, S1, f1, B1, g, s1, r, q⟩ => ?_⟩
  by_cases ho : i.own = false
  · rw [if_pos ho] at q
    have wk := r.2 ho
    refine ⟨fun k m σ2 H2 => m = i.ds.length - k ∧ k ≤ i.ds.length ∧ ∃ ρ2 S2 f2 B2, Wg f1 B1 H1 f2 B2 H2 ∧ At X.K ca ρ2 S2 f2 B2 σ2 H2 ∧ PostS X.K ca W Dn ρ2 σ2 f2 B2 H2 (forL i.Still (asgT t) (evS P s) (i.ds.drop k) ρ2 S2), ⟨i.ds.length, ?_⟩, ?_⟩
    · exact ⟨by simp, Nat.zero_le _, ρ, S1, f1, B1, ⟨.refl _, .refl _⟩, a.gw g s1, by simpa using q⟩
    · rintro k m σ2 H2 ⟨rfl, hle, ρ2, S2, f2, B2, wg, a2, pp⟩
      have st : i.Still S2 := by
        cases hdr : i.ds.drop k with
        | nil =>
          rw [hdr] at pp
          unfold forL at pp
          split at pp
          · assumption
          · exact pp.elim
        | cons x xs =>
          rw [hdr] at pp
          unfold forL at pp
          split at pp
          · assumption
          · exact pp.elim
      obtain ⟨w1, w2⟩ := wk f2 B2 H2 S2 wg a2.si st k
      by_cases hlt : k < i.ds.length
      · obtain ⟨d, ed, edr⟩ := drop_cons hlt
        rw [edr] at pp
        unfold forL at pp
        rw [if_pos st] at pp
        obtain ⟨go, yl⟩ := w1 d ed
        refine .inr ⟨go, fun σ' H' => i.ds.length - (k + 1) = i.ds.length - (k + 1) ∧ k + 1 ≤ i.ds.length ∧ ∃ ρ2 S2 f2 B2, Wg f1 B1 H1 f2 B2 H' ∧ At X.K ca ρ2 S2 f2 B2 σ' H' ∧ PostS X.K ca W Dn ρ2 σ' f2 B2 H' (forL i.Still (asgT t) (evS P s) (i.ds.drop (k + 1)) ρ2 S2), fun σ' H' q => ⟨i.ds.length - (k + 1), by omega, q⟩, fun x H3 y => ?_⟩
        obtain ⟨B3, g3, s3, rx⟩ := yl x H3 y
        have a3 := a2.gw g3 s3
        have pp := pp.gs (g3.gs ow_same)
        cases ea : asgT t d ρ2 with
        | none => rw [ea] at pp; exact pp.elim
        | some ρ4 =>
          rw [ea] at pp
          dsimp only at pp
          refine a3.asg rx ea fun σ4 a4 g4 => ?_
          have pp := pp.gs g4
          have nxt : ∀ f5 B5 H5 ρ5 S5 σ5, Gs f2 B3 H3 ρ4 σ4 f5 B5 H5 ρ5 σ5 → At X.K ca ρ5 S5 f5 B5 σ5 H5 → PostS X.K ca W Dn ρ4 σ4 f2 B3 H3 (forL i.Still (asgT t) (evS P s) (i.ds.drop (k + 1)) ρ5 S5) →
              i.ds.length - (k + 1) = i.ds.length - (k + 1) ∧ k + 1 ≤ i.ds.length ∧ ∃ ρ2 S2 f2 B2, Wg f1 B1 H1 f2 B2 H5 ∧ At X.K ca ρ2 S2 f2 B2 σ5 H5 ∧ PostS X.K ca W Dn ρ2 σ5 f2 B2 H5 (forL i.Still (asgT t) (evS P s) (i.ds.drop (k + 1)) ρ2 S2) := fun f5 B5 H5 ρ5 S5 σ5 g5 a5 p5 =>
            ⟨rfl, hlt, ρ5, S5, f5, B5, ⟨wg.fx.trans (g3.fx.trans g5.fx), wg.bx.trans (g3.bx.trans g5.bx)⟩, a5, p5.gs g5⟩
          refine ⟨ρ4, S2, f2, B3, a4, ?_⟩
          cases eb : evS P s ρ4 S2 with
          | next ρ5 S5 => rw [eb] at pp; exact fun f5 B5 H5 σ5 g5 a5 => nxt f5 B5 H5 ρ5 S5 σ5 g5 a5 pp
          | cnt ρ5 S5 => rw [eb] at pp; exact fun f5 B5 H5 σ5 g5 a5 => nxt f5 B5 H5 ρ5 S5 σ5 g5 a5 pp
          | brk ρ5 S5 => rw [eb] at pp; exact pp
          | ret d S5 => rw [eb] at pp; exact pp
          | exc c fs ρ5 S5 => rw [eb] at pp; exact pp
          | stuck => rw [eb] at pp; exact pp.elim
      · have ei : k = i.ds.length := by omega
        refine .inl ⟨w2 (by omega), ?_⟩
        rw [ei, List.drop_length] at pp
        unfold forL at pp
        rw [if_pos st] at pp
        exact pp f2 B2 H2 σ2 .refl a2
  · rw [if_neg ho] at q; exact q.elim
theorem while_rd {t : Ex} (h : RS X ca W P (.whil t s) Dn σ H) : tWhile (RT X ca W P t) (RS X ca W P s) Dn σ H := by
  obtain ⟨ρ, S, f, B, a, p⟩ := h
  simp only [evS] at p
  refine ⟨fun m σ2 H2 => ∃ ρ2 S2 f2 B2, At X.K ca ρ2 S2 f2 B2 σ2 H2 ∧ PostS X.K ca W Dn ρ2 σ2 f2 B2 H2 (whileL (fun ρ S => evT P ρ t S) (evS P s) m ρ2 S2), ⟨fuel, ρ, S, f, B, a, p⟩, ?_⟩
  rintro m σ2 H2 ⟨ρ2, S2, f2, B2, a2, pp⟩
  cases m with
  | zero => exact pp.elim
  | succ m =>
    simp only [whileL] at pp
    refine ⟨ρ2, S2, f2, B2, a2, (pp.then a2.en).imp fun v H3 ⟨d, S3, f3, B3, g, s3, r, q⟩ => ?_⟩
    have r : d = v := r
    subst r
    have a3 := a2.gw g s3
    cases d with
    | true =>
      rw [if_pos rfl] at q ⊢
      refine ⟨fun σ' H' => ∃ ρ2 S2 f2 B2, At X.K ca ρ2 S2 f2 B2 σ' H' ∧ PostS X.K ca W Dn ρ2 σ' f2 B2 H' (whileL (fun ρ S => evT P ρ t S) (evS P s) m ρ2 S2), fun σ' H' q => ⟨m, Nat.lt_succ_self m, q⟩, ρ2, S3, f3, B3, a3, ?_⟩
      cases eb : evS P s ρ2 S3 with
      | next ρ5 S5 => rw [eb] at q; exact fun f5 B5 H5 σ5 g5 a5 => ⟨ρ5, S5, f5, B5, a5, q.gs g5⟩
      | cnt ρ5 S5 => rw [eb] at q; exact fun f5 B5 H5 σ5 g5 a5 => ⟨ρ5, S5, f5, B5, a5, q.gs g5⟩
      | brk ρ5 S5 => rw [eb] at q; exact q
      | ret d S5 => rw [eb] at q; exact q
      | exc c fs ρ5 S5 => rw [eb] at q; exact q
      | stuck => rw [eb] at q; exact q.elim
    | false =>
      rw [if_neg Bool.false_ne_true] at q ⊢
      exact q f3 B3 H3 σ2 .refl a3
theorem drop_rd (h : RS X ca W P (.drop a) Dn σ H) : tDrop (RE X ca W P a) Dn σ H := by
  obtain ⟨ρ, S, f, B, a, p⟩ := h
  simp only [evS] at p
  exact ⟨ρ, S, f, B, a, (p.then a.en).imp fun v H1 ⟨d, S1, f1, B1, g, s1, r, q⟩ => q f1 B1 H1 σ .refl (a.gw g s1)⟩
theorem unp_rd {l : List Nat} {e : Ex} (h : RS X ca W P (.unp l e) Dn σ H) : tAsg (RE X ca W P e) (gTup X.K l.length (gNs l)) Dn σ H := by
  obtain ⟨ρ, S, f, B, a, p⟩ := h
  simp only [evS] at p
  refine ⟨ρ, S, f, B, a, (p.then a.en).imp fun v H1 ⟨d, S1, f1, B1, g, s1, r, q⟩ => ?_⟩
  cases ea : asgT (.tup l) d ρ with
  | none => rw [ea] at q; exact q.elim
  | some ρ1 =>
    rw [ea] at q
    have r : RpW X.K f1 B1 H1 (rs ρ d) v := r
    have pd : rs ρ d = .d d := by
      cases d with
      | loc i => cases ea
      | _ => rfl
    rw [pd] at r
    exact (a.gw g s1).asg (t := .tup l) r ea fun σ' a' g' => q f1 B1 H1 σ' g' a'
theorem _root_.PySem.Paired.pair1 {α β : Type} {R : α → β → Prop} {x : α} {vs : List β} (h : Paired R [x] vs) : ∃ v, vs = [v] ∧ R x v := by
  cases h with
  | cons h1 h => cases h; exact ⟨_, rfl, h1⟩
theorem _root_.PySem.Paired.pair2 {α β : Type} {R : α → β → Prop} {x y : α} {vs : List β} (h : Paired R [x, y] vs) : ∃ v w, vs = [v, w] ∧ R x v ∧ R y w := by
  cases h with
  | cons h1 h => cases h with
    | cons h2 h => cases h; exact ⟨_, _, rfl, h1, h2⟩
theorem par_rd {i j : Nat} (h : RS X ca W P (.par i j a b) Dn σ H) : tPar i j (RA X ca W P (.cons a (.cons b .nil))) Dn σ H := by
  obtain ⟨ρ, S, f, B, a', p⟩ := h
  simp only [evS] at p
  refine ⟨ρ, S, f, B, a', (p.then a'.en).imp fun vs H1 ⟨ds, S1, f1, B1, g, s1, r, q⟩ => ?_⟩
  split at q
  · rename_i x y
    have r : Paired (fun d v => RpX X.K f1 B1 H1 ρ d v) [x, y] vs := r
    obtain ⟨v, w, rfl, rx, ry⟩ := r.pair2
    refine ⟨v, w, rfl, ?_⟩
    by_cases hp : plainD x = true ∧ plainD y = true
    · rw [if_pos hp] at q
      have rx : RpW X.K f1 B1 H1 (rs ρ x) v := rx
      have ry : RpW X.K f1 B1 H1 (rs ρ y) w := ry
      rw [plain_d hp.1] at rx
      rw [plain_d hp.2] at ry
      have a1 := a'.gw g s1
      obtain ⟨a2, g2⟩ := a1.setV (i := i) rx
      obtain ⟨a3, g3⟩ := a2.setV (i := j) ry
      exact q f1 B1 H1 _ (g2.trans g3) a3
    · rw [if_neg hp] at q; exact q.elim
  · exact q.elim
/-! ### lists are written -/
theorem EnvR.wrOwn {k : Nat} {l : Addr} {ds es : List D} {xs : List V} (h : EnvR K f B H ρ σ) (e1 : ρ[k]? = some (.own (.lst ds))) (e2 : σ[k]? = some (some (V.ref l))) (r : RpA K f B es xs) : EnvR K f B (upd H l (.lst xs)) (ρ.set k (.own (.lst es))) σ := by
  obtain ⟨l', e3, rc⟩ := h.own k _ e1
  rw [e2] at e3; cases e3
  obtain ⟨b0, f0, vs, h0, r0⟩ := rc
  have kl : k < ρ.length := (List.getElem?_eq_some_iff.mp e1).1
  refine ⟨by rw [List.length_set]; exact h.len, fun j d q => ?_, fun j o q => ?_, fun i j o u a q1 q2 z1 z2 => ?_⟩
  · rw [getS] at q
    by_cases c : k = j ∧ j < ρ.length
    · rw [if_pos c] at q; cases q
    · rw [if_neg c] at q; exact h.val j d q
  · rw [getS] at q
    by_cases c : k = j ∧ j < ρ.length
    · rw [if_pos c] at q; cases q
      exact ⟨l, by rw [← c.1]; exact e2, b0, f0, xs, upd_same, r⟩
    · rw [if_neg c] at q
      obtain ⟨x, z1, z2⟩ := h.own j o q
      have ne : x ≠ l := fun z => c ⟨h.inj k j _ _ l e1 q e2 (z ▸ z1), (List.getElem?_eq_some_iff.mp q).1⟩
      refine ⟨x, z1, ?_⟩
      cases o with
      | lst ws => obtain ⟨y0, y1, vs, y2, y3⟩ := z2; exact ⟨y0, y1, vs, by rw [upd_ne ne]; exact y2, y3⟩
      | dic ws => obtain ⟨y0, y1, vs, y2, y3⟩ := z2; exact ⟨y0, y1, vs, by rw [upd_ne ne]; exact y2, y3⟩
      | dit ws => obtain ⟨y0, y1, vs, y2, y3⟩ := z2; exact ⟨y0, y1, vs, by rw [upd_ne ne]; exact y2, y3⟩
      | ins c fs => exact z2.elim
      | exc c fs => exact z2.elim
  · have back : ∀ (j : Nat) (o : O), (ρ.set k (.own (.lst es)))[j]? = some (.own o) → ∃ o', ρ[j]? = some (.own o') := fun j o q => by
      rw [getS] at q
      by_cases c : k = j ∧ j < ρ.length
      · exact ⟨_, by rw [← c.1]; exact e1⟩
      · rw [if_neg c] at q; exact ⟨o, q⟩
    obtain ⟨o', q1⟩ := back i o q1
    obtain ⟨u', q2⟩ := back j u q2
    exact h.inj i j o' u' a q1 q2 z1 z2
theorem wrL_ok {g : List D → Option (List D)} {x : D} {v : V} (a : At K ca ρ S f B σ H) (r : RpX K f B H ρ x v) (p : PostS K ca W Dn ρ σ f B H (wrL g x ρ S)) :
    ∃ l xs ds es, v = .ref l ∧ H l = some (.lst xs) ∧ g ds = some es ∧ RpA K f B ds xs ∧ ∀ ys, RpA K f B es ys → Dn.nx σ (upd H l (.lst ys)) := by
  cases x with
  | obj n =>
    have r : Rp K f B (.obj n) v := r
    simp only [Rp] at r
    obtain ⟨l, e1, rfl⟩ := r
    simp only [wrL] at p
    split at p
    · rename_i ds e2
      split at p
      · rename_i es e3
        obtain ⟨b, ro⟩ := a.si.live e2 e1
        obtain ⟨xs, h1, r1⟩ := ro
        refine ⟨l, xs, ds, es, rfl, h1, e3, r1, fun ys r2 => ?_⟩
        have s2 := a.si.write e2 e1 (o' := .lst es) (u := .lst ys) ⟨ys, upd_same, r2⟩
        exact p _ _ _ σ ((Gw.write e1).gs ow_same) ⟨a.en.gw (.write e1), s2⟩
      · exact p.elim
    · exact p.elim
  | _ => exact p.elim
theorem wrO_ok {g : List D → Option (List D)} {k : Nat} (a : At K ca ρ S f B σ H) (p : PostS K ca W Dn ρ σ f B H (wrO g k ρ S)) :
    ∃ l xs ds es, σ[k]? = some (some (.ref l)) ∧ H l = some (.lst xs) ∧ g ds = some es ∧ RpA K f B ds xs ∧ ∀ ys, RpA K f B es ys → Dn.nx σ (upd H l (.lst ys)) := by
  unfold wrO at p
  split at p
  · rename_i ds e2
    obtain ⟨l, z1, rc⟩ := a.en.own k _ e2
    have rc' := rc
    obtain ⟨b0, f0, xs, h0, r0⟩ := rc
    split at p
    · rename_i es e3
      refine ⟨l, xs, ds, es, z1, h0, e3, r0, fun ys r2 => ?_⟩
      have ol : Ow ρ σ l := ⟨k, _, e2, z1⟩
      refine p f B _ σ ⟨.refl f, .refl B, fun x o e n w => ?_⟩ ⟨a.en.wrOwn e2 z1 r2, a.si.updOwn h0 lst_exd b0 f0⟩
      have ne : x ≠ l := fun z => w (z ▸ ol)
      refine ⟨by rw [upd_ne ne]; exact e, n, rfl, fun ⟨j, u, q1, q2⟩ => ?_⟩
      rw [getS] at q1
      by_cases c : k = j ∧ j < ρ.length
      · exact w ⟨k, _, e2, by rw [c.1]; exact q2⟩
      · rw [if_neg c] at q1; exact w ⟨j, u, q1, q2⟩
    · exact p.elim
  · exact p.elim
theorem isL_ok {x : D} {v : V} (a : At K ca ρ S f B σ H) (r : RpX K f B H ρ x v) (h : isL x S = true) : tyV K "list" v H := by
  cases x with
  | obj n =>
    have r : Rp K f B (.obj n) v := r
    simp only [Rp] at r
    obtain ⟨l, e1, rfl⟩ := r
    simp only [isL] at h
    split at h
    · rename_i ds e2
      obtain ⟨b, ro⟩ := a.si.live e2 e1
      obtain ⟨xs, h1, r1⟩ := ro
      exact .inl ⟨rfl, xs, .of h1⟩
    · cases h
  | _ => cases h
theorem setL_ok {k : Int} {d : D} {v : V} {ds es : List D} {xs : List V} (r : RpA K f B ds xs) (rd : Rp K f B d v) (e : setL k d ds = some es) : ∃ j, ixN xs.length k = some j ∧ RpA K f B es (xs.set j v) := by
  unfold setL at e
  rw [← r.len] at e
  split at e
  · rename_i j e2
    cases e
    exact ⟨j, e2, r.set j rd⟩
  · cases e
theorem appL_ok {d : D} {v : V} {ds es : List D} {xs : List V} (r : RpA K f B ds xs) (rd : Rp K f B d v) (e : appL d ds = some es) : xs.length < sizeLine ∧ RpA K f B es (xs ++ [v]) := by
  unfold appL at e
  split at e
  · rename_i hl
    cases e
    exact ⟨by rw [r.len]; exact hl, r.app (.one rd)⟩
  · cases e
theorem plainR {d : D} {v : V} (hp : plainD d = true) (r : RpX K f B H ρ d v) : Rp K f B d v := by
  have r : RpW K f B H (rs ρ d) v := r
  rw [plain_d hp] at r
  exact r
theorem rdA.ofE {e : Ex} {Q : List V → Hp → Prop} (h : RE X ca W P e σ H (fun v H' => Q [v] H')) : RA X ca W P (.cons e .nil) σ H Q := by
  obtain ⟨ρ, S, f, B, a, p⟩ := h
  refine ⟨ρ, S, f, B, a, ?_⟩
  simp only [evA_cons, evA_nil]
  dsimp only at p
  cases e1 : evE P ρ e S with
  | stuck => rw [e1] at p; exact p
  | exc c fs S1 => rw [e1] at p; exact p
  | ok x S1 =>
    rw [e1] at p
    intro f1 B1 H1 vs g s r
    have r : Paired (fun d v => RpX X.K f1 B1 H1 ρ d v) [x] vs := r
    obtain ⟨v, rfl, r1⟩ := r.pair1
    exact p f1 B1 H1 _ g s r1
theorem stIx_rd {o i e : Ex} (h : RS X ca W P (.stIx o i e) Dn σ H) : tAsg (RE X ca W P e) (gSub (RE X ca W P o) (RE X ca W P i) rSetL) Dn σ H := by
  obtain ⟨ρ, S, f, B, a, p⟩ := h
  simp only [evS] at p
  refine ⟨ρ, S, f, B, a, (p.then a.en).imp fun v H1 ⟨d, S1, f1, B1, g1, s1, r1, q⟩ => ?_⟩
  have a1 := a.gw g1 s1
  refine ⟨ρ, S1, f1, B1, a1, (q.then a1.en).imp fun w H2 ⟨x, S2, f2, B2, g2, s2, r2, q⟩ => ?_⟩
  have a2 := a1.gw g2 s2
  refine ⟨ρ, S2, f2, B2, a2, (q.then a2.en).imp fun u H3 ⟨y, S3, f3, B3, g3, s3, r3, q⟩ => ?_⟩
  have a3 := a2.gw g3 s3
  cases y with
  | int k =>
    dsimp only at q
    split at q
    · rename_i hp
      obtain ⟨l, xs, ds, es, rfl, hl, e1, ra, nx⟩ := wrL_ok a3 (RpX.gw g3 r2) q
      have e : u = .int k := by have r : Rp X.K f3 B3 (.int k) u := r3; simpa only [Rp] using r
      obtain ⟨j, z1, z2⟩ := setL_ok ra (plainR hp ((RpX.gw g2 r1).gw g3)) e1
      exact ⟨l, xs, k, j, rfl, e, hl, z1, nx _ z2⟩
    · exact q.elim
  | _ => exact q.elim
theorem isO_ok {k : Nat} (a : At K ca ρ S f B σ H) (h : isO k ρ = true) : ∃ l, σ[k]? = some (some (V.ref l)) ∧ tyV K "list" (.ref l) H := by
  unfold isO at h
  split at h
  · rename_i ds e2
    obtain ⟨l, z1, rc⟩ := a.en.own k _ e2
    obtain ⟨b0, f0, xs, h0, r0⟩ := rc
    exact ⟨l, z1, .inl ⟨rfl, xs, .of h0⟩⟩
  · cases h
theorem stV_rd {i : Nat} {k e : Ex} (h : RS X ca W P (.stV i k e) Dn σ H) : tAsg (RE X ca W P e) (gSub (tVar i) (RE X ca W P k) rSetL) Dn σ H := by
  obtain ⟨ρ, S, f, B, a, p⟩ := h
  simp only [evS] at p
  refine ⟨ρ, S, f, B, a, (p.then a.en).imp fun v H1 ⟨d, S1, f1, B1, g1, s1, r1, q⟩ => ?_⟩
  have a1 := a.gw g1 s1
  split at q
  · rename_i ho
    obtain ⟨l0, hv, _⟩ := isO_ok a1 ho
    refine ⟨_, hv, ⟨ρ, S1, f1, B1, a1, (q.then a1.en).imp fun u H3 ⟨y, S3, f3, B3, g3, s3, r3, q⟩ => ?_⟩⟩
    have a3 := a1.gw g3 s3
    cases y with
    | int k =>
      dsimp only at q
      split at q
      · rename_i hp
        obtain ⟨l, xs, ds, es, e0, hl, e1, ra, nx⟩ := wrO_ok a3 q
        have e : u = .int k := by have r : Rp X.K f3 B3 (.int k) u := r3; simpa only [Rp] using r
        obtain ⟨j, z1, z2⟩ := setL_ok ra (plainR hp (RpX.gw g3 r1)) e1
        rw [hv] at e0; cases e0
        exact ⟨_, xs, k, j, rfl, e, hl, z1, nx _ z2⟩
      · exact q.elim
    | _ => exact q.elim
  · exact q.elim
theorem app_rd {i : Nat} {e : Ex} (h : RS X ca W P (.app i e) Dn σ H) : tDrop (tBM X.K "list" rAppend (tVar i) (RA X ca W P (.cons e .nil))) Dn σ H := by
  obtain ⟨ρ, S, f, B, a, p⟩ := h
  simp only [evS] at p
  split at p
  · rename_i ho
    obtain ⟨l0, hv, ty⟩ := isO_ok a ho
    refine ⟨_, hv, ty, rdA.ofE ⟨ρ, S, f, B, a, (p.then a.en).imp fun v H1 ⟨d, S1, f1, B1, g1, s1, r1, q⟩ => ?_⟩⟩
    have a1 := a.gw g1 s1
    split at q
    · rename_i hp
      obtain ⟨l, xs, ds, es, e0, hl, e1, ra, nx⟩ := wrO_ok a1 q
      obtain ⟨z1, z2⟩ := appL_ok ra (plainR hp r1) e1
      rw [hv] at e0; cases e0
      exact ⟨_, xs, v, rfl, rfl, hl, z1, nx _ z2⟩
    · exact q.elim
  · exact p.elim
theorem appO_rd {o e : Ex} (h : RS X ca W P (.appO o e) Dn σ H) : tDrop (tBM X.K "list" rAppend (RE X ca W P o) (RA X ca W P (.cons e .nil))) Dn σ H := by
  obtain ⟨ρ, S, f, B, a, p⟩ := h
  simp only [evS] at p
  refine ⟨ρ, S, f, B, a, (p.then a.en).imp fun w H1 ⟨x, S1, f1, B1, g1, s1, r1, q⟩ => ?_⟩
  have a1 := a.gw g1 s1
  split at q
  · rename_i ho
    refine ⟨isL_ok a1 r1 ho, rdA.ofE ⟨ρ, S1, f1, B1, a1, (q.then a1.en).imp fun v H2 ⟨d, S2, f2, B2, g2, s2, r2, q⟩ => ?_⟩⟩
    have a2 := a1.gw g2 s2
    split at q
    · rename_i hp
      obtain ⟨l, xs, ds, es, e0, hl, e1, ra, nx⟩ := wrL_ok a2 (RpX.gw g2 r1) q
      obtain ⟨z1, z2⟩ := appL_ok ra (plainR hp r2) e1
      exact ⟨l, xs, v, e0, rfl, hl, z1, nx _ z2⟩
    · exact q.elim
  · exact q.elim
/-- a new list of the store is returned -/
theorem retO_rd {e : Ex} (h : RS X ca W P (.retO e) Dn σ H) : tRet (RL X ca W P e) Dn σ H := by
  obtain ⟨ρ, S, f, B, a, p⟩ := h
  simp only [evS] at p
  refine ⟨ρ, S, f, B, a, ?_⟩
  have p := p.thenL a.en
  dsimp only at p ⊢
  cases e1 : evL P ρ e S with
  | stuck => rw [e1] at p; exact p
  | exc c fs S1 => rw [e1] at p; exact p
  | ok ds S1 =>
    rw [e1] at p
    intro f1 B1 H1 q vs g s h0 h1 h2 h3 h4
    obtain ⟨ds', S1', f1', B1', p', vs', e', g', s', k0, k1, k2, k3, k4, post⟩ := p f1 B1 H1 q vs g s h0 h1 h2 h3 h4
    cases e'
    have fd := s'.fdom
    have gn : Gs f B H ρ σ (fnew f1' S1'.length q) B1' H1 [] [] := by
      refine ⟨g'.fx.trans (.new fd), g'.bx, fun a' o e n w => ?_⟩
      obtain ⟨y1, y2, y3⟩ := g'.fr a' o e n
      refine ⟨y1, fun m z => ?_, y3, fun ⟨i, u, q1, _⟩ => by simp at q1⟩
      by_cases hm : m = S1'.length
      · rw [hm, fnew_same] at z; cases z; rw [k0] at e; cases e
      · rw [fnew_ne hm] at z; exact y2 m z
    refine post _ _ _ _ gn (s'.newAt k1 k2 k3 lst_exd ⟨vs', k3, k4.mono (.new fd) (.refl _)⟩) ?_
    simp only [Rp]
    exact ⟨q, fnew_same, rfl⟩
end
end Mx
end

section
set_option maxRecDepth 100000
set_option maxHeartbeats 4000000
/-! Mx16: own exception classes over any base with plain facts: making, fields. -/
namespace Mx
open PySem PySem.Spec PyProof.Rows L2 PySem.W PySem.HandSPX
/-- what the written part says of an own exception class -/
structure XcK (K : PySem.W.Frag) (C : Addr) : Prop where
  cls : ∃ B newId initId bmB nm q N bs bm sn sub ab col dd k0 k1 k2 k3 k5, ExcBaseFacts B newId initId bmB ∧ StoreFacts B bmB "object.__setattr__" "object" ∧ K.lookup C = some (excClassObj nm q C N bs bm true sn sub ab col dd k0 k1 k2 k3 k5 newId) ∧ excTail bmB bm = true
  sa : findIn K (.ref C) "__setattr__" = some (some (.builtin "object.__setattr__"))
  ga : findIn K (.ref C) "__getattribute__" = some (some (.builtin "BaseException.__getattribute__"))
  gt : findIn K (.ref C) "__getattr__" = some none
  exC : subIn K (.ref C) (.type "BaseException") = some true
  tyC : typeIn K (.ref C) = some (.type "type")
  kC : keepIn K (.ref C) = true
section
open Builtin Builtin.ObjectAttr
variable {X : Cx} {pins : List (Addr × Obj)} {σ : L2.St} {H : Hp} {s : Shared} {a C dx : Addr} {f : Str} {y : V} {u : Value} {fs : List (Str × V)} {Q : Unit → Shared → Prop} {E : Value → Shared → Prop} {A : Around}
theorem XcK.clsIn {K : PySem.W.Frag} (T : XcK K C) : ∃ B bmB cd bm, StoreFacts B bmB "object.__setattr__" "object" ∧ PySem.W.clsIn K C = some cd ∧ cd.mro = .ref C :: bm ∧ cd.hasDict = true ∧ excTail bmB bm = true ∧ excOver K C bmB = true := by
  obtain ⟨B, newId, initId, bmB, nm, q, N, bs, bm, sn, sub, ab, col, dd, k0, k1, k2, k3, k5, FB, SF, hC, ht⟩ := T.cls
  have hcl : PySem.W.clsIn K C = some { name := nm, bases := bs, mro := .ref C :: bm, ns := N, qualname := q, hasDict := true, slotNames := sn, subclasses := sub, abstract := ab, collection := col, hasDel := false } := by unfold PySem.W.clsIn; rw [hC] <;> rfl
  refine ⟨B, bmB, _, bm, SF, hcl, rfl, rfl, ht, ?_⟩
  unfold excOver
  rw [hcl]
  simp [ht]
/-- the store itself -/
theorem xst_new {hp : Heap} {g : Array GenState} {d : Drawn} {t : Nat} {os : OsState} {fv : Array Value} {K : PySem.W.Frag} {P : Program} {w : World} {R : Unit → Shared → Prop} (T : XcK K C) (Xk : K.In hp) (hx : hp.get? a = some { cls := .ref C, data := .fields fv })
    (hno : findIn K (.ref C) f = some none)
    (hq : ∀ h' tk' dx, (∀ b o, b ≠ a → hp.get? b = some o → h'.get? b = some o) → hp.objs.size ≤ dx → dx ≠ a → h'.get? a = some { cls := .ref C, dict := some dx, data := .fields fv } →
      h'.Ns1 dx (fun y => if y = f then some u else none) → R () ⟨h', g, d, tk', os⟩) : wpAny (model P w) A (setAttr (.ref a) f u) R E ⟨hp, g, d, t, os⟩ := by
  obtain ⟨B, bmB, cd, bm, SF, hcl, hm, hh, ht, hov⟩ := T.clsIn
  have hxs : a ≠ hp.objs.size := Nat.ne_of_lt (Heap.lt_size hx)
  refine set_plain Xk (ox := { cls := .ref C, data := .fields fv }) (od := none) ⟨hx, rfl, rfl, trivial⟩ T.sa ?_
  refine osa_openX (s := ⟨hp, g, d, t + 1, os⟩) SF Xk (ox := { cls := .ref C, data := .fields fv }) (od := none) ⟨hx, rfl, rfl, trivial⟩ hov (r := none) (by unfold takerIn; rw [hno]; rfl) fun b => ?_
  have hcls : Looks (model P w) hp (classData C) cd := looks_clsIn Xk hcl
  dsimp only
  obtain ⟨nm, bs, mro, ns, qn, hd, sn, sb, ab, col, del⟩ := cd
  dsimp only at hh
  subst hh
  unfold storeInOwnDict ownDictForStores
  repeat (first | with_reducible refine HandSPX.store_in_new ?_ ?_ | with_reducible refine wpAny_loadPart_at hx ?_ | with_reducible refine hcls.at ?_ | wp_step)
  · have none_in : ∀ e ∈ (#[] : Array DictEntry), False := fun e he => by simp at he
    exact ⟨_, #[], _, Eq.trans (Heap.get?_update_ne _ _ _ _ (Ne.symm hxs)) (Heap.get?_push_at rfl rfl), rfl, fun e he => (none_in e he).elim, fun _ => rfl⟩
  · intro h' tk' hn' hs
    have hx₁ : (hp.push { cls := .type "dict", data := .dict #[] }).get? a = some { cls := .ref C, data := .fields fv } := Heap.get?_push_of_some _ hx
    refine hq h' tk' hp.objs.size (fun c o hb ho => ?_) (Nat.le_refl _) hxs.symm ?_ hn'
    · rw [hs.2 c (Nat.ne_of_lt (Heap.lt_size ho)), Heap.get?_update_ne _ _ _ _ hb]
      exact Heap.get?_push_of_some _ ho
    · rw [hs.2 a hxs]
      exact Heap.get?_update_self _ hx₁ rfl
theorem xst_old {hp : Heap} {g : Array GenState} {d : Drawn} {t : Nat} {os : OsState} {fv : Array Value} {K : PySem.W.Frag} {P : Program} {w : World} {R : Unit → Shared → Prop} {m0 : Str → Option Value} {nl : List Str} (T : XcK K C) (Xk : K.In hp) (hx : hp.get? a = some { cls := .ref C, dict := some dx, data := .fields fv })
    (hns : hp.Ns1 dx m0) (hw : Within m0 nl) (hz : nl.length ≤ 1000) (hno : findIn K (.ref C) f = some none)
    (hq : ∀ h' tk', (∀ b o, b ≠ dx → hp.get? b = some o → h'.get? b = some o) → h'.Ns1 dx (fun y => if y = f then some u else m0 y) → R () ⟨h', g, d, tk', os⟩) : wpAny (model P w) A (setAttr (.ref a) f u) R E ⟨hp, g, d, t, os⟩ := by
  obtain ⟨B, bmB, cd, bm, SF, hcl, hm, hh, ht, hov⟩ := T.clsIn
  obtain ⟨oD, esD, epD, hoD, hdD, _⟩ := hns.count hw
  refine set_plain Xk (ox := { cls := .ref C, dict := some dx, data := .fields fv }) (od := some oD) ⟨hx, rfl, rfl, hoD⟩ T.sa ?_
  refine osa_openX (s := ⟨hp, g, d, t + 1, os⟩) SF Xk (ox := { cls := .ref C, dict := some dx, data := .fields fv }) (od := some oD) ⟨hx, rfl, rfl, hoD⟩ hov (r := none) (by unfold takerIn; rw [hno]; rfl) fun b => ?_
  have hcls : Looks (model P w) hp (classData C) cd := looks_clsIn Xk hcl
  dsimp only
  obtain ⟨nm, bs, mro, ns, qn, hd, sn, sb, ab, col, del⟩ := cd
  dsimp only at hh
  subst hh
  unfold storeInOwnDict ownDictForStores
  repeat (first | with_reducible refine OEX.store_in_old hns hw hz ?_ | with_reducible refine wpAny_loadPart_at hx ?_ | with_reducible refine hcls.at ?_ | wp_step)
  intro h' tk' hn' hs
  exact hq h' tk' (fun c o hb ho => (hs.2 c hb).trans ho) hn'
/-- a field is stored, with the invariant -/
theorem inv_new (T : XcK X.K C) (I : Inv X pins σ H s) (e : H a = some (exo a C none)) (hno : findIn X.K (.ref C) f = some none) (ry : RelV y u)
    (h : ∀ dx s', H dx = none → dx ≠ a → Inv X pins σ (upd (upd H dx (exd dx [(f, y)])) a (exo a C (some dx))) s' → Q () s') : wpAny (model X.prog X.w) A (setAttr (.ref a) f u) Q E s := by
  obtain ⟨t1, ho⟩ := exo_at I.hok e
  obtain ⟨hp, g, d, t, os⟩ := s
  refine xst_new T I.kIn ho hno fun h' tk' dx k dn dne hx hn => ?_
  have hnd : H dx = none := I.hok.fresh dn
  have young : ∀ {b : Addr} {o : Obj}, hp.get? b = some o → b ≠ dx := fun {b o} q z => absurd (Heap.lt_size q) (by rw [z]; exact Nat.not_lt.mpr dn)
  have nota : ∀ {b : Addr}, H b = none → b ≠ a := fun {b} n z => by rw [z, e] at n; cases n
  refine h dx _ hnd dne (I.un (t' := tk') ?_ fun b o q => ?_)
  · refine { keep := fun b o q n _ _ => k b o (nota n) q, slot := fun b o q n _ _ => ⟨o.slots, k b o (nota n) q⟩, free := fun b o q n _ => ?_, there := fun b o q _ => ?_, tups := fun b xs q => ?_, frzs := fun b o v q => ?_, tbls := fun b ps q => ⟨#[], ?_⟩ }
    · rw [upd_ne (nota n), upd_ne (young q)]; exact n
    · by_cases hb : b = a
      · exact ⟨_, hb ▸ hx⟩
      · exact ⟨o, k b o hb q⟩
    · rw [upd_ne (at_ne e q exo_tup), upd_ne (ne_of_none q hnd)]; exact q
    · rw [upd_ne (at_ne e q exo_frz), upd_ne (ne_of_none q hnd)]; exact q
    · rw [upd_ne (at_ne e q exo_tbl), upd_ne (ne_of_none q hnd), q]; simp
  · by_cases hb : b = a
    · subst hb; rw [upd_same] at q; cases q; exact exo_ok hx
    · rw [upd_ne hb] at q
      by_cases hd : b = dx
      · subst hd; rw [upd_same] at q; cases q
        exact exd_ok hn (relO_put (fs := []) ry fun _ => trivial)
      · rw [upd_ne hd] at q
        refine (I.hok b o q).stay (fun c v hc z => k c v ?_ z) (fun c hc => ?_) (fun c xs hc => ?_)
        · rcases hc with rfl | hc
          · exact hb
          · exact at_ne e hc exo_own
        · rw [upd_ne (at_ne e hc exo_own), upd_ne (ne_of_none hc hnd)]; exact hc
        · rw [upd_ne (at_ne e hc exo_tup), upd_ne (ne_of_none hc hnd)]; exact hc
theorem inv_old (T : XcK X.K C) (I : Inv X pins σ H s) (e : H a = some (exo a C (some dx))) (ed : H dx = some (exd dx fs)) (hl : fs.length ≤ 900) (hno : findIn X.K (.ref C) f = some none) (ry : RelV y u)
    (h : ∀ s', Inv X pins σ (upd H dx (exd dx ((f, y) :: fs))) s' → Q () s') : wpAny (model X.prog X.w) A (setAttr (.ref a) f u) Q E s := by
  obtain ⟨t1, ho⟩ := exo_at I.hok e
  obtain ⟨mA, hns, rel⟩ := exd_at I.hok ed
  obtain ⟨hp, g, d, t, os⟩ := s
  refine xst_old T I.kIn ho hns (within_of rel) (by rw [List.length_map]; omega) hno fun h' tk' k hn => ?_
  obtain ⟨o, es, ep, ho', _⟩ := id hn
  refine h _ (I.write (t' := tk') (x := dx) (e := dx) (o := exd dx ((f, y) :: fs)) (by rw [ed]; trivial) (.inl rfl) k ⟨o, ho'⟩ ?_)
  exact exd_ok hn (relO_put ry rel)
end
/-! ### __init__: its parameters become the fields -/
/-- fields as they are stored: the latest first -/
def xflds (fs : List Str) (vs : List V) : List (Str × V) := (fs.zip vs).reverse
/-- what such an __init__ keeps -/
def spI (C : Addr) (fs : List Str) : Sp := fun vs H Q _ => ∃ a ws, vs = .ref a :: ws ∧ ws.length = fs.length ∧ H a = some (exo a C none) ∧ ∀ d, H d = none → d ≠ a → Q .non (upd (upd H d (exd d (xflds fs ws))) a (exo a C (some d)))
section
variable {X : Cx} {o e : Expr} {to te : TE} {f : Str} {p' pos : Pos}
/-- self.f = e, the first -/
def tXst1 (K : PySem.W.Frag) (f : Str) (to te : TE) : TS := fun Dn σ H => te σ H fun y H1 => to σ H1 fun x H2 => ∃ a C : Addr, x = .ref a ∧ XcK K C ∧ findIn K (.ref C) f = some none ∧ H2 a = some (exo a C none) ∧ ∀ d, H2 d = none → d ≠ a → Dn.nx σ (upd (upd H2 d (exd d [(f, y)])) a (exo a C (some d)))
/-- self.f = e, a further one -/
def tXst2 (K : PySem.W.Frag) (f : Str) (to te : TE) : TS := fun Dn σ H => te σ H fun y H1 => to σ H1 fun x H2 => ∃ a C d fs, x = .ref a ∧ XcK K C ∧ findIn K (.ref C) f = some none ∧ H2 a = some (exo a C (some d)) ∧ H2 d = some (exd d fs) ∧ fs.length ≤ 900 ∧ Dn.nx σ (upd H2 d (exd d ((f, y) :: fs)))
theorem ps_xst1 (ho : PE X o to) (he : PE X e te) (hs : swapsWith e (some (.Attribute o f p')) pos.line X.env = pure false) : PS X (.Assign [.Attribute o f p'] e pos) (tXst1 X.K f to te) := by
  refine ⟨fun pins s σ H D I h => plainObj_wpAny_Assign_Attribute (thn (he.run pins s σ H _ I h) fun v s1 ⟨y, H1, I1, r1, q1⟩ => ?_) hs⟩
  refine thn (ho.run pins s1 σ H1 _ I1 q1) fun u s2 ⟨x, H2, I2, r2, a, C, ex, T, hno, ea, q⟩ => ?_
  subst ex
  cases (show u = Value.ref a from r2)
  exact inv_new T I2 ea hno r1 fun dx s' n ne J => ⟨σ, _, J, q dx n ne⟩
theorem ps_xst2 (ho : PE X o to) (he : PE X e te) (hs : swapsWith e (some (.Attribute o f p')) pos.line X.env = pure false) : PS X (.Assign [.Attribute o f p'] e pos) (tXst2 X.K f to te) := by
  refine ⟨fun pins s σ H D I h => plainObj_wpAny_Assign_Attribute (thn (he.run pins s σ H _ I h) fun v s1 ⟨y, H1, I1, r1, q1⟩ => ?_) hs⟩
  refine thn (ho.run pins s1 σ H1 _ I1 q1) fun u s2 ⟨x, H2, I2, r2, a, C, dx, fs, ex, T, hno, ea, ed, hl, q⟩ => ?_
  subst ex
  cases (show u = Value.ref a from r2)
  exact inv_old T I2 ea ed hl hno r1 fun s' J => ⟨σ, _, J, q⟩
end
end Mx
end

section
set_option maxRecDepth 100000
set_option maxHeartbeats 4000000
/-! Mx17: own exceptions made, their fields read, isinstance. -/
namespace Mx
open PySem PySem.Spec PyProof.Rows L2 PySem.W PySem.HandSPX
section
variable {P : Program} {w : World} {K : PySem.W.Frag} {mg : Str → Option Value} {base : Heap}
/-- a def by its body, as FnG -/
theorem fn_FD {x qual : Str} {params : Arguments} {body : List Stmt} {scope : Scope} {f : Addr} {fd : FuncData} {N ps : List Str} {k : Nat} {sp : Sp} (F : FunD K x qual params body scope [] [] f fd) (S : FnScope N ps scope) (len : ∀ vs H Q E, sp vs H Q E → vs.length = ps.length)
    (hbody : ∀ (cdv : Value) (A : Around) (outer : List PySem.Env) (s : Shared) (H : Hp) (vs : List V) (Q : VK) (E : XK), Room k (A.deeper (envOfC qual scope s.heap.objs.size f cdv)) → A.guards = some [] → sp vs H Q E →
      ∃ t, PSs (cxOf (L2.CX P w) P w K mg base N qual scope f cdv A outer s H E) body t ∧ t { nx := fun _ H' => Q .non H', rt := Q } (start N vs) H) : FnG P w K mg base (k + 1) f fd ps sp := by
  obtain ⟨oc, od, dV, kV, doc, pm, an, cdv, ct, osl, rfl, lk, hcd, _, _⟩ := F.ex
  exact fn_ofG lk hcd S len fun A outer s H vs Q E hr hg hsp => hbody cdv A outer s H vs Q E hr hg hsp
theorem spI_len {C : Addr} {fs : List Str} {ps : List Str} (h : ps.length = fs.length + 1) : ∀ vs H Q E, spI C fs vs H Q E → vs.length = ps.length := by
  rintro vs H Q E ⟨a, ws, rfl, hl, _⟩
  simp [h, hl]
def okName (x : Str) : Bool := !(x == ("__debug__" : Str)) && !(x == ("__classdict__" : Str))
theorem okName_1 {x : Str} (h : okName x = true) : (x == ("__debug__" : Str)) = false := by
  unfold okName at h
  cases e : (x == ("__debug__" : Str)) with
  | false => rfl
  | true => rw [e] at h; cases h
theorem okName_2 {x : Str} (h : okName x = true) : (x == ("__classdict__" : Str)) = false := by
  unfold okName at h
  cases e : (x == ("__classdict__" : Str)) with
  | false => rfl
  | true => rw [e] at h; simp at h
theorem FnScope.vis {N ps : List Str} {sc : Scope} (S : FnScope N ps sc) {x : Str} (h : x ∈ ps) : Vis sc x := by
  rcases S.par x h with h | h
  · exact .inl h
  · exact .inr (.inl h)
theorem init1 {C : Addr} {k : Nat} {qual s p f : Str} {params : Arguments} {body : List Stmt} {scope : Scope} {fI : Addr} {fd : FuncData} {p1 p2 p3 p4 : Pos} (T : XcK K C) (F : FunD K "__init__" qual params body scope [] [] fI fd) (S : FnScope [s, p] [s, p] scope) (n1 : okName s = true) (n2 : okName p = true)
    (hb : body = [.Assign [.Attribute (.Name s p1) f p2] (.Name p p3) p4]) (hf : findIn K (.ref C) f = some none) : FnG P w K mg base (k + 1) fI fd [s, p] (spI C [f]) :=
  fn_FD F S (spI_len rfl) fun cdv A outer sh H vs Q E hr hg hsp => by
    rw [hb]
    refine ⟨_, pss_one (ps_xst1 (pe_var (i := 0) rfl (FnScope.vis S (by simp)) (okName_1 n1) (okName_2 n1)) (pe_var (i := 1) rfl (FnScope.vis S (by simp)) (okName_1 n2) (okName_2 n2)) rfl), ?_⟩
    obtain ⟨a, ws, rfl, hl, ea, q⟩ := hsp
    match ws, hl, q with
    | [v], _, q => exact ⟨v, rfl, .ref a, rfl, a, C, rfl, T, hf, ea, fun d hd hn => q d hd hn⟩
theorem init2 {C : Addr} {k : Nat} {qual s p p' f f' : Str} {params : Arguments} {body : List Stmt} {scope : Scope} {fI : Addr} {fd : FuncData} {p1 p2 p3 p4 q1 q2 q3 q4 : Pos} (T : XcK K C) (F : FunD K "__init__" qual params body scope [] [] fI fd) (S : FnScope [s, p, p'] [s, p, p'] scope) (n1 : okName s = true) (n2 : okName p = true) (n3 : okName p' = true)
    (hb : body = [.Assign [.Attribute (.Name s p1) f p2] (.Name p p3) p4, .Assign [.Attribute (.Name s q1) f' q2] (.Name p' q3) q4]) (hf : findIn K (.ref C) f = some none) (hf' : findIn K (.ref C) f' = some none) : FnG P w K mg base (k + 1) fI fd [s, p, p'] (spI C [f, f']) :=
  fn_FD F S (spI_len rfl) fun cdv A outer sh H vs Q E hr hg hsp => by
    rw [hb]
    refine ⟨_, pss_cons (ps_xst1 (pe_var (i := 0) rfl (FnScope.vis S (by simp)) (okName_1 n1) (okName_2 n1)) (pe_var (i := 1) rfl (FnScope.vis S (by simp)) (okName_1 n2) (okName_2 n2)) rfl)
      (pss_one (ps_xst2 (pe_var (i := 0) rfl (FnScope.vis S (by simp)) (okName_1 n1) (okName_2 n1)) (pe_var (i := 2) rfl (FnScope.vis S (by simp)) (okName_1 n3) (okName_2 n3)) rfl)), ?_⟩
    obtain ⟨a, ws, rfl, hl, ea, q⟩ := hsp
    match ws, hl, q with
    | [v, v'], _, q =>
      refine ⟨v, rfl, .ref a, rfl, a, C, rfl, T, hf, ea, fun d hd hn => ⟨v', rfl, .ref a, rfl, a, C, d, [(f, v)], rfl, T, hf', upd_same, by rw [upd_ne hn]; exact upd_same, by simp, ?_⟩⟩
      have e : upd (upd (upd H d (exd d [(f, v)])) a (exo a C (some d))) d (exd d ((f', v') :: [(f, v)])) = upd (upd H d (exd d (xflds [f, f'] [v, v']))) a (exo a C (some d)) := by
        funext b
        by_cases b1 : b = a
        · subst b1; rw [upd_ne (Ne.symm hn), upd_same, upd_same]
        · by_cases b2 : b = d
          · subst b2; rw [upd_same, upd_ne b1, upd_same]; rfl
          · rw [upd_ne b2, upd_ne b1, upd_ne b2, upd_ne b1, upd_ne b2]
      show Q .non _
      rw [e]
      exact q d hd hn
/-- a class that may be made: C(v, ..) -/
def MkOk (X : Cx) (C : Addr) (fs : List Str) : Prop := ∀ (pins : List (Addr × Obj)) (s : Shared) (σ : L2.St) (H : Hp) (vs : List V) (us : List Value) (Q : VK), Inv X pins σ H s → Vals vs us → vs.length = fs.length →
  (∀ a, H a = none → match fs with
    | [] => Q (.ref a) (upd H a (exo a C none))
    | fs => ∀ d, H d = none → d ≠ a → Q (.ref a) (upd (upd H d (exd d (xflds fs vs))) a (exo a C (some d)))) →
  wpAny (model X.prog X.w) X.A (call (.ref C) us) (EP X pins σ Q) X.xe s
end
section
variable {X : Cx} {C fI : Addr} {k : Nat} {fd : FuncData} {ps : List Str} {fs : List Str} {x f : Str} {e : Expr} {es : List Expr} {ta : TA} {te : TE} {p pos : Pos}
theorem mk_own (T : XcK X.K C) (iC : findIn X.K (.ref C) "__init__" = some (some (.ref fI))) (tI : typeIn X.K (.ref fI) = some (.type "function")) (F1 : FnG X.prog X.w X.K X.mg X.base k fI fd ps (spI C fs)) (hr : Room (k + 1) X.A) (hg : X.A.guards = some []) (hb : Binds X.K fd ps [])
    (hne : fs ≠ []) (hsz : fs.length ≤ 900) : MkOk X C fs := by
  intro pins s σ H vs us Q I rv hl q
  obtain ⟨B, newId, initId, bmB, nm, qn, N, bs, bm, sn, sub, ab, col, dd, k0, k1, k2, k3, k5, FB, SF, hC, ht⟩ := T.cls
  obtain ⟨hp, g, dr, tk, os⟩ := s
  have sz : hp.objs.size ≤ hp.objs.size + 1 := Nat.le_succ _
  have kk : ∀ b o, hp.get? b = some o → ((hp.push (kdv_tup us)).push (excO C hp.objs.size)).get? b = some o := fun b o z => Heap.get?_push_of_some _ (Heap.get?_push_of_some _ z)
  have there : ((hp.push (kdv_tup us)).push (excO C hp.objs.size)).get? (hp.objs.size + 1) = some (excO C hp.objs.size) := by heap_get
  have I2 : Inv X pins σ (upd H (hp.objs.size + 1) (exo (hp.objs.size + 1) C none)) ⟨(hp.push (kdv_tup us)).push (excO C hp.objs.size), g, dr, tk, os⟩ :=
    I.laid (a := hp.objs.size + 1) (o := exo (hp.objs.size + 1) C none) (t' := tk) (h' := (hp.push (kdv_tup us)).push (excO C hp.objs.size)) kk sz (exo_ok there)
  have hn : H (hp.objs.size + 1) = none := I.hok.fresh sz
  have r2 : Vals (V.ref (hp.objs.size + 1) :: vs) (Value.ref (hp.objs.size + 1) :: us) := .cons rfl rv
  have lu : us.length ≤ sizeLine := by
    rw [← Paired.length rv, hl, sizeLine_eq]; omega
  -- what __init__ is asked for
  have ask : spI C fs (V.ref (hp.objs.size + 1) :: vs) (upd H (hp.objs.size + 1) (exo (hp.objs.size + 1) C none)) (fun v H2 => v = .non ∧ Q (.ref (hp.objs.size + 1)) H2) (fun _ _ _ => False) := by
    refine ⟨_, vs, rfl, hl, upd_same, fun d hd nd => ⟨rfl, ?_⟩⟩
    have q0 := q _ hn
    rw [upd_ne nd] at hd
    have e : upd (upd (upd H (hp.objs.size + 1) (exo (hp.objs.size + 1) C none)) d (exd d (xflds fs vs))) (hp.objs.size + 1) (exo (hp.objs.size + 1) C (some d)) = upd (upd H d (exd d (xflds fs vs))) (hp.objs.size + 1) (exo (hp.objs.size + 1) C (some d)) := by
      funext b
      by_cases b1 : b = hp.objs.size + 1
      · subst b1; rw [upd_same, upd_same]
      · rw [upd_ne b1, upd_ne b1]
        by_cases b2 : b = d
        · subst b2; rw [upd_same, upd_same]
        · rw [upd_ne b2, upd_ne b2, upd_ne b1]
    rw [e]
    cases fs with
    | nil => exact absurd rfl hne
    | cons f0 fs => exact q0 d hd nd
  have lp : (Value.ref (hp.objs.size + 1) :: us).length = ps.length := (Paired.length r2).symm.trans (F1.len _ _ _ _ ask)
  have bnd := hb _ (Value.ref (hp.objs.size + 1) :: us) I2.kIn (by rw [List.append_nil]; exact lp)
  rw [List.append_nil] at bnd
  have run := F1.go _ X.stack _ _ ⟨Value.ref (hp.objs.size + 1) :: us, []⟩ (Value.ref (hp.objs.size + 1) :: us) _ _ _ (hr.make C us []) hg (I2.env0.make C us []) bnd r2 ask
  refine wpAny_call (HandSPX.call_own FB (fun Y => excTail_contains Y bm ht) (I.kIn _ _ hC) (looks_findIn I.kIn iC) (fun self => bind_fn I.kIn self tI) lu (codeAny_mono run fun r s' hq => ?_))
  match r, hq with
  | .error er, hq =>
    obtain ⟨_, _, _, _, _, _, _, _, _, _, _, _, no⟩ := hq
    exact no.elim
  | .ok (.ret u), hq =>
    obtain ⟨v, H3, I3, r3, ev, q3⟩ := I2.after hq
    subst ev
    exact ⟨r3, .ref (hp.objs.size + 1), H3, I3, rfl, q3⟩
  | .ok .next, hq => exact hq.elim
  | .ok .brk, hq => exact hq.elim
  | .ok .cont, hq => exact hq.elim
theorem mk_none {bmB : List Value} {B newId initId : String} (F : ExcBaseFacts B newId initId bmB) (q : PySem.W.excIn X.K C bmB newId = true) : MkOk X C [] := by
  intro pins s σ H vs us Q I rv hl h
  cases vs with
  | cons v vs => cases hl
  | nil =>
    cases rv
    obtain ⟨bm, N, nm, qn, bs, hdct, sn, sub, ab, col, dd, k0, k1, k2, k3, k5, mN, hC, hN, hni, T⟩ := exc_obj I.kIn q
    refine wpAny_call_exc_subT F T hC hN hni (fun h' a hm => ?_) (by show 0 ≤ sizeLine; omega)
    have hn : H a = none := I.hok.gone hm.new
    obtain ⟨t, ht, _, _⟩ := hm.there
    exact ⟨.ref a, upd H a (exo a C none), I.laidN hm.keeps hm.new hn (exo_ok ht), rfl, h a hn⟩
/-- the call by its name -/
def tMkX (C : Addr) (fs : List Str) (ta : TA) : TE := fun σ H Q => ta σ H fun vs H1 => vs.length = fs.length ∧ (∀ a, H1 a = none → match fs with
  | [] => Q (.ref a) (upd H1 a (exo a C none))
  | fs => ∀ d, H1 d = none → d ≠ a → Q (.ref a) (upd (upd H1 d (exd d (xflds fs vs))) a (exo a C (some d))))
theorem pe_mkX (M : MkOk X C fs) (kC : keepIn X.K (.ref C) = true) (gx : Gl X x) (mx : X.mg x = some (.ref C)) (ha : PA X (e :: es) ta) (nd : (x == ("__debug__" : Str)) = false)
    (st : starEach (e :: es) X.env = (false, eval e X.env) :: starEach es X.env) (bt : (backTo pos (starEach es X.env)).any (·.1) = false) : PE X (.Call (.Name x p) (e :: es) [] pos) (tMkX C fs ta) := ⟨fun pins s σ H Q I h =>
  wpAny_Call_Name_kw (ld_glob I gx mx (callWith_K (h₀ := X.base) I.ok.mod.kin kC (thn (ha.run pos pins s σ H _ I h) fun us s1 z => by
    obtain ⟨vs, H1, I1, r, hl, q⟩ := z
    exact ⟨I1.kIn, M pins s1 σ H1 vs us Q I1 r hl q⟩) st bt) nd)⟩
theorem pe_mkX0 (M : MkOk X C []) (kC : keepIn X.K (.ref C) = true) (gx : Gl X x) (mx : X.mg x = some (.ref C)) (nd : (x == ("__debug__" : Str)) = false) : PE X (.Call (.Name x p) [] [] pos) (tMkX C [] tNil) := ⟨fun pins s σ H Q I h =>
  wpAny_Call_Name_kw (ld_glob I gx mx (callWith_K0 I.kIn kC (M pins s σ H [] [] Q I .nil h.1 h.2)) nd)⟩
end
end Mx
end

section
set_option maxRecDepth 100000
set_option maxHeartbeats 4000000
/-! Mx18: own exceptions in the evaluator. -/
namespace Mx
open PySem PySem.Spec PyProof.Rows L2 PySem.W PySem.HandSPX
theorem RpF.app {κ : Type} {K : PySem.W.Frag} {f : Fm} {B : Hp} : ∀ {ds es : List (κ × D)} {vs ws : List (κ × V)}, RpF K f B ds vs → RpF K f B es ws → RpF K f B (ds ++ es) (vs ++ ws)
  | [], _, _, _, h, g => by cases h; exact g
  | (k, d) :: ds, _, _, _, h, g => by
    obtain ⟨v, r, rfl, h1, h2⟩ := h
    exact ⟨v, _, rfl, h1, h2.app g⟩
theorem RpF.rev {κ : Type} {K : PySem.W.Frag} {f : Fm} {B : Hp} : ∀ {ds : List (κ × D)} {vs : List (κ × V)}, RpF K f B ds vs → RpF K f B ds.reverse vs.reverse
  | [], _, h => by cases h; exact rfl
  | (k, d) :: ds, _, h => by
    obtain ⟨v, r, rfl, h1, h2⟩ := h
    simp only [List.reverse_cons]
    exact h2.rev.app ⟨v, [], rfl, h1, rfl⟩
theorem RpA.zipF {K : PySem.W.Frag} {f : Fm} {B : Hp} : ∀ {fs : List Str} {ds : List D} {vs : List V}, RpA K f B ds vs → RpF K f B (fs.zip ds) (fs.zip vs)
  | [], _, _, _ => by simp [RpF]
  | x :: fs, [], _, h => by simp only [RpA] at h; subst h; simp [RpF]
  | x :: fs, d :: ds, _, h => by
    simp only [RpA] at h
    obtain ⟨v, vs, rfl, h1, h2⟩ := h
    simp only [List.zip_cons_cons]
    exact ⟨v, _, rfl, h1, h2.zipF⟩
section
variable {X : Cx} {ca : Nat → Addr} {W : WX} {P : PrX} {a l : Ex} {c : Nat} {x f : Str} {e ea o : Expr} {es : List Expr} {p pos : Pos}
theorem mk_rd {σ : L2.St} {H : Hp} {Q : VK} (h : RE X ca W P (.mk c l) σ H Q) : tMkX (ca c) (P.exf c) (RA X ca W P l) σ H Q := by
  obtain ⟨ρ, S, f, B, at_, q⟩ := h
  simp only [evE_mk] at q
  refine ⟨ρ, S, f, B, at_, q.bind.imp fun vs H1 ⟨ds, S1, f1, B1, g1, s1, r, q⟩ => ?_⟩
  by_cases hp : ds.all plainD = true ∧ ds.length = (P.exf c).length
  · rw [if_pos hp] at q
    have ra : RpA X.K f1 B1 ds vs := RXs.rpA r hp.1
    refine ⟨by rw [ra.len, hp.2], fun b hb => ?_⟩
    have fd := s1.fdom
    have fin : ∀ H2 : Hp, Hx H1 H2 → RpO X.K ca (fnew f1 S1.length b) B1 H2 b (.exc c ((P.exf c).zip ds).reverse) → Q (.ref b) H2 := fun H2 hx ro =>
      q (fnew f1 S1.length b) B1 H2 (.ref b) (.new fd hb hx) (s1.new hb hx ro) (Rp.x (by simp only [Rp]; exact ⟨b, fnew_same, rfl⟩))
    have nb : ∀ d, d ≠ b → H1 d = none → ∀ n, fnew f1 S1.length b n ≠ some d := fun d hd h0 n e => by
      by_cases hn : n = S1.length
      · rw [hn, fnew_same] at e; cases e; exact hd rfl
      · rw [fnew_ne hn] at e; exact s1.nof h0 n e
    have rf : RpF X.K (fnew f1 S1.length b) B1 ((P.exf c).zip ds).reverse (xflds (P.exf c) vs) := RpF.rev (ra.zipF.mono (.new fd) (.refl _))
    cases hf : P.exf c with
    | nil =>
      refine fin _ (.new hb) ⟨none, [], upd_same, ?_, rfl⟩
      rw [hf]; exact rfl
    | cons f0 fs =>
      intro d hd nd
      rw [hf] at rf fin
      refine fin _ ((Hx.new hd).trans (.new (by rw [upd_ne (Ne.symm nd)]; exact hb))) ⟨some d, _, upd_same, rf, ?_, nd, s1.free hd, nb d nd hd⟩
      rw [upd_ne nd]; exact upd_same
  · rw [if_neg hp] at q; exact q.elim
/-- what isinstance and the reading of fields ask of an own exception class -/
structure XcI (K : PySem.W.Frag) (C : Addr) : Prop where
  ga : findIn K (.ref C) "__getattribute__" = some (some (.builtin "BaseException.__getattribute__"))
  gt : findIn K (.ref C) "__getattr__" = some none
  sub : subIn K (.ref C) (.type "BaseException") = some true
  hd : hasDictIn K C = true
  ha : findIn K (.ref C) "__class__" = some (some (.builtin "object.__class__"))
  hn : specialIn K (.builtin "object.__class__") "__get__" = some (some (.builtin "getset_descriptor.__get__"))
  tk : takesIn K (.builtin "object.__class__") = some true
  hm : mroIn K C (.type "object") = some true
/-- an exception of the class at C stands at a -/
def ExAt (H : Hp) (a C : Addr) : Prop := ∃ d : Option Addr, H a = some (exo a C d) ∧ match d with
  | none => True
  | some d => ∃ fs, H d = some (exd d fs)
theorem exAt_inst {pins : List (Addr × Obj)} {σ : L2.St} {H : Hp} {s : Shared} {b C : Addr} (I : Inv X pins σ H s) (h : ExAt H b C) : ∃ ox od, InstAt s.heap b ox C od := by
  obtain ⟨d, h1, h2⟩ := h
  obtain ⟨t1, ho⟩ := exo_at I.hok h1
  cases d with
  | none => exact ⟨_, none, ho, rfl, rfl, trivial⟩
  | some d =>
    obtain ⟨fs, h2⟩ := h2
    obtain ⟨mA, hns, rel⟩ := exd_at I.hok h2
    obtain ⟨oD, _, _, hoD, _, _⟩ := hns.count (within_of rel)
    exact ⟨_, some oD, ho, rfl, rfl, hoD⟩
theorem cb_isi : CallR X (.builtin "isinstance") (fun xs H Q => ∃ (b C : Addr) (v : V) (cv : Value) (r : Bool), xs = [.ref b, v] ∧ ExAt H b C ∧ XcI X.K C ∧ (∀ u, RelV v u → u = cv) ∧ kitOne X.K (.ref C) cv = some r ∧ Q (.bl r) H) := by
  intro pins s σ H xs us Q I r h
  obtain ⟨b, C, v, cv, z, rfl, ha, T, hv, hk, q⟩ := h
  cases r with
  | cons rx rr => cases rr with
    | cons rt rr =>
      cases rr
      cases rx
      cases hv _ rt
      obtain ⟨ox, od, J⟩ := exAt_inst I ha
      have hcl : (clsIn X.K C).isSome = true := by
        obtain ⟨cd, hc, _⟩ := any_some T.hd
        rw [hc]; rfl
      exact kia_one (kitx_exc (x := b) (ox := ox) (od := od) hcl T.ga T.gt T.sub T.ha T.hn T.tk T.hm) I.kIn J hk (fun z => nomatch z) fun tk => ⟨.bl _, H, I.kept (t' := tk) fun _ _ z => z, rfl, q⟩
/-- a class, as what isinstance asks for -/
def icV (ca : Nat → Addr) : Ic → Value
  | .ty n => .type n
  | .cls c => .ref (ca c)
  | .two _ _ => .none
def icW (ca : Nat → Addr) : Ic → V
  | .ty n => .ty n
  | .cls c => .ref (ca c)
  | .two _ _ => .non
theorem icV_rel {ic : Ic} (u : Value) (h : RelV (icW ca ic) u) : u = icV ca ic := by cases ic <;> exact h
theorem se_isi {ic : Ic} {ec : Expr} (gx : Gl X "isinstance") (mx : X.mg "isinstance" = none) (ha : PE X ea (RE X ca W P a)) (hc : PE X ec (tC (icW ca ic)))
    (hq : ∀ k r, P.isa k ic = some r → XcI X.K (ca k) ∧ kitOne X.K (.ref (ca k)) (icV ca ic) = some r)
    (st : starEach [ea, ec] X.env = [(false, eval ea X.env), (false, eval ec X.env)]) (st2 : starEach [ec] X.env = [(false, eval ec X.env)]) :
    PE X (.Call (.Name "isinstance" p) [ea, ec] [] pos) (RE X ca W P (.isi a ic)) :=
  (pe_callB cb_isi gx mx (by decide +kernel) (pa_cons ha (pa_cons hc pa_nil (by rw [st2]; rfl)) (by rw [st, st2])) (by decide) (by decide) (by rw [st, st2]) (by rw [st2]; rfl)).imp fun σ H Q h => by
    obtain ⟨ρ, S, f, B, at_, q⟩ := h
    simp only [evE_isi] at q
    refine ⟨ρ, S, f, B, at_, q.bind.imp fun v H1 ⟨d, S1, f1, B1, g1, s1, r, q⟩ => ?_⟩
    cases d with
    | obj n =>
      have r : Rp X.K f1 B1 (.obj n) v := r
      simp only [Rp] at r
      obtain ⟨b, eb, rfl⟩ := r
      dsimp only at q
      split at q
      · rename_i k fs e1
        unfold blR at q
        split at q
        · rename_i r e2
          obtain ⟨T, hk⟩ := hq k r e2
          obtain ⟨_, dd, vs, h1, h2, h3⟩ := s1.live e1 eb
          refine ⟨b, ca k, _, _, r, rfl, ⟨dd, h1, ?_⟩, T, icV_rel, hk, q f1 B1 H1 _ (.refl ..) s1 (Rp.x (by simp only [Rp]))⟩
          cases dd with
          | none => trivial
          | some dd => exact ⟨vs, h3.1⟩
        · exact q.elim
      · exact q.elim
    | _ => exact q.elim
/-- e.f of an own exception -/
theorem pe_xfl {te : TE} (he : PE X o te) (hb : attributeBase o f X.env (eval o X.env) = eval o X.env) : PE X (.Attribute o f pos) (fun σ H Q => te σ H fun y H1 => ∃ (b C d : Addr) (fs : List (Str × V)) (v : V), y = .ref b ∧ H1 b = some (exo b C (some d)) ∧ H1 d = some (exd d fs) ∧ XcI X.K C ∧ findIn X.K (.ref C) f = some none ∧ fs.lookup f = some v ∧ Q v H1) := by
  refine ⟨fun pins s σ H Q I h => attr_of hb (thn (he.run pins s σ H _ I h) fun u s1 hh => ?_)⟩
  obtain ⟨y, H1, I1, ry, b, C, d, fs, v, ey, h1, h2, T, hno, hl, q⟩ := hh
  subst ey
  cases (show u = Value.ref b from ry)
  obtain ⟨t1, ho⟩ := exo_at I1.hok h1
  obtain ⟨mA, hns, hr⟩ := exd_at I1.hok h2
  obtain ⟨od, hod, hlk⟩ := lookIn_ns hns
  obtain ⟨u, hu, ru⟩ := RelO.some_of (v := v) (o := mA f) (by rw [← hl]; exact hr f)
  have J : InstAt s1.heap b _ C (some od) := ⟨ho, rfl, rfl, hod⟩
  refine exc_get I1.kIn J T.ga T.gt T.sub (findObj_own T.hd hno rfl ?_) (handed_of ru) ⟨v, H1, I1.tok _, ru, q⟩
  rw [hlk, hu]
theorem se_xfl (T : XcI X.K (ca c)) (hno : findIn X.K (.ref (ca c)) f = some none) (ha : PE X ea (RE X ca W P a)) (hb : attributeBase ea f X.env (eval ea X.env) = eval ea X.env) : PE X (.Attribute ea f pos) (RE X ca W P (.xfl c a f)) :=
  (pe_xfl ha hb).imp fun σ H Q h => by
    obtain ⟨ρ, S, fm, B, at_, q⟩ := one (r1 := opXfl c f) (h.of fun ρ S => evE_xfl)
    refine ⟨ρ, S, fm, B, at_, q.imp fun v H1 ⟨S1, f1, B1, o, s1, r, p⟩ => ?_⟩
    unfold opXfl at p
    split at p
    · rename_i n
      split at p
      · rename_i k fs e
        by_cases hk : k = c
        · subst hk
          rw [if_pos rfl] at p
          split at p
          · rename_i d el
            have r : Rp X.K f1 B1 (.obj n) v := r
            simp only [Rp] at r
            obtain ⟨y, ey, rfl⟩ := r
            obtain ⟨_, dd, vs, h1, h2, h3⟩ := s1.live e ey
            obtain ⟨w, e1, e2⟩ := h2.look.1 d el
            cases dd with
            | none => cases h3; cases e1
            | some dd => exact ⟨y, _, dd, vs, w, rfl, h1, h3.1, T, hno, e1, p.same s1 e2⟩
          · exact p.elim
        · rw [if_neg hk] at p; exact p.elim
      · exact p.elim
    · exact p.elim
end
end Mx
end

section
set_option maxRecDepth 100000
set_option maxHeartbeats 4000000
/-! Mx19: what the checker looks at, and the facts a context gives. -/
namespace Mx
open PySem PySem.Spec PyProof.Rows L2 PySem.W PySem.HandSPX
/-! ### forms -/
def vName : Expr → Option Str
  | .Name x _ => some x
  | _ => none
def vCon : Expr → Option Const
  | .Constant c _ _ => some c
  | _ => none
def vBin : Expr → Option (Expr × Operator × Expr)
  | .BinOp a o b _ => some (a, o, b)
  | _ => none
def vUn : Expr → Option (UnaryOp × Expr)
  | .UnaryOp o a _ => some (o, a)
  | _ => none
def vBool : Expr → Option (BoolOp × List Expr)
  | .BoolOp o l _ => some (o, l)
  | _ => none
def vIf : Expr → Option (Expr × Expr × Expr)
  | .IfExp c a b _ => some (c, a, b)
  | _ => none
def vCmp : Expr → Option (Expr × CmpOp × Expr)
  | .Compare a [o] [b] _ => some (a, o, b)
  | _ => none
def vCall : Expr → Option (Str × List Expr)
  | .Call (.Name x _) l [] _ => some (x, l)
  | _ => none
def vAttr : Expr → Option (Expr × Str)
  | .Attribute o x _ => some (o, x)
  | _ => none
def vSub : Expr → Option (Expr × Expr)
  | .Subscript a b _ => some (a, b)
  | _ => none
def vTup : Expr → Option (List Expr)
  | .Tuple l _ _ => some l
  | _ => none
def vLst : Expr → Option (List Expr)
  | .List l _ => some l
  | _ => none
def vComp : Expr → Option (Expr × Expr × Expr × List Expr × Scope)
  | .ListComp e [⟨t, i, ifs, 0⟩] sc _ => some (e, t, i, ifs, sc)
  | _ => none
theorem vName_ok {e : Expr} {x} (h : vName e = some x) : ∃ p, e = .Name x p := by
  cases e <;> simp [vName] at h; subst h; exact ⟨_, rfl⟩
theorem vCon_ok {e : Expr} {x} (h : vCon e = some x) : ∃ k p, e = .Constant x k p := by
  cases e <;> simp [vCon] at h; subst h; exact ⟨_, _, rfl⟩
theorem vBin_ok {e : Expr} {a o b} (h : vBin e = some (a, o, b)) : ∃ p, e = .BinOp a o b p := by
  cases e <;> simp [vBin] at h; obtain ⟨rfl, rfl, rfl⟩ := h; exact ⟨_, rfl⟩
theorem vUn_ok {e : Expr} {o a} (h : vUn e = some (o, a)) : ∃ p, e = .UnaryOp o a p := by
  cases e <;> simp [vUn] at h; obtain ⟨rfl, rfl⟩ := h; exact ⟨_, rfl⟩
theorem vBool_ok {e : Expr} {o l} (h : vBool e = some (o, l)) : ∃ p, e = .BoolOp o l p := by
  cases e <;> simp [vBool] at h; obtain ⟨rfl, rfl⟩ := h; exact ⟨_, rfl⟩
theorem vIf_ok {e : Expr} {c a b} (h : vIf e = some (c, a, b)) : ∃ p, e = .IfExp c a b p := by
  cases e <;> simp [vIf] at h; obtain ⟨rfl, rfl, rfl⟩ := h; exact ⟨_, rfl⟩
theorem vCmp_ok {e : Expr} {a o b} (h : vCmp e = some (a, o, b)) : ∃ p, e = .Compare a [o] [b] p := by
  unfold vCmp at h; split at h <;> cases h; exact ⟨_, rfl⟩
theorem vCall_ok {e : Expr} {x l} (h : vCall e = some (x, l)) : ∃ p q, e = .Call (.Name x p) l [] q := by
  unfold vCall at h; split at h <;> cases h; exact ⟨_, _, rfl⟩
theorem vAttr_ok {e : Expr} {o x} (h : vAttr e = some (o, x)) : ∃ p, e = .Attribute o x p := by
  cases e <;> simp [vAttr] at h; obtain ⟨rfl, rfl⟩ := h; exact ⟨_, rfl⟩
theorem vSub_ok {e : Expr} {a b} (h : vSub e = some (a, b)) : ∃ p, e = .Subscript a b p := by
  cases e <;> simp [vSub] at h; obtain ⟨rfl, rfl⟩ := h; exact ⟨_, rfl⟩
theorem vTup_ok {e : Expr} {l} (h : vTup e = some l) : ∃ k p, e = .Tuple l k p := by
  cases e <;> simp [vTup] at h; subst h; exact ⟨_, _, rfl⟩
theorem vLst_ok {e : Expr} {l} (h : vLst e = some l) : ∃ p, e = .List l p := by
  cases e <;> simp [vLst] at h; subst h; exact ⟨_, rfl⟩
theorem vComp_ok {e : Expr} {el t i ifs sc} (h : vComp e = some (el, t, i, ifs, sc)) : ∃ p, e = .ListComp el [⟨t, i, ifs, 0⟩] sc p := by
  unfold vComp at h; split at h <;> cases h; exact ⟨_, rfl⟩
/-! ### side conditions -/
def noStar : Expr → Bool
  | .Starred _ _ => false
  | _ => true
theorem star_cons {e : Expr} {es : List Expr} {env : PySem.Env} (h : noStar e = true) : starEach (e :: es) env = (false, eval e env) :: starEach es env := by
  cases e <;> first | rfl | cases h
def allStar : List Expr → Bool
  | [] => true
  | e :: es => noStar e && allStar es
theorem star_all {env : PySem.Env} {p : Pos} : ∀ {es : List Expr}, allStar es = true → (backTo p (starEach es env)).any (·.1) = false
  | [], _ => rfl
  | e :: es, h => by
    have h1 : noStar e = true ∧ allStar es = true := by simpa [allStar] using h
    have ih := star_all (env := env) (p := p) h1.2
    rw [star_cons h1.1]
    simpa [backTo] using ih
def noBase : Expr → Bool
  | .Call _ [] [] _ => false
  | _ => true
theorem base_of {o : Expr} {x : Str} {env : PySem.Env} (h : noBase o = true) : attributeBase o x env (eval o env) = eval o env := by
  cases o with
  | Call f l kw p =>
    cases l with
    | nil => cases kw with
      | nil => cases h
      | cons _ _ => cases f <;> rfl
    | cons _ _ => cases f <;> rfl
  | _ => rfl
def okIx : Expr → Bool
  | .Slice _ _ _ _ => false
  | _ => true
theorem ix_of {b : Expr} (h : okIx b = true) : PlainIx b := by
  cases b <;> first | (intro o i; rfl) | cases h
def noSet : Expr → Bool
  | .Set _ _ _ => false
  | _ => true
theorem marks_of {o : CmpOp} {b : Expr} (h : noSet b = true) : behindInMarks o b = false := by
  cases b <;> first | rfl | cases h
theorem folded_of {b : Expr} {env : PySem.Env} (h : noSet b = true) : ∀ x, foldedSetIterable b env x = pure x := by
  cases b <;> first | (intro x; rfl) | cases h
def plainT : Expr → Bool
  | .UnaryOp .Not _ _ => false
  | .BoolOp _ _ _ => false
  | .IfExp _ _ _ _ => false
  | .Compare _ _ _ _ => false
  | _ => true
theorem true_of {e : Expr} {env : PySem.Env} (h : plainT e = true) : ∀ whole, isTrue e env whole = (do let v ← whole; standAt e.pos; holding [v] (truthy v)) := by
  cases e with
  | UnaryOp o a p => cases o <;> first | (intro w; rfl) | cases h
  | BoolOp _ _ _ => cases h
  | IfExp _ _ _ _ => cases h
  | Compare _ _ _ _ => cases h
  | _ => intro w; rfl
def noLc : Expr → Bool
  | .ListComp _ _ _ _ => false
  | .SetComp _ _ _ _ => false
  | .DictComp _ _ _ _ _ => false
  | _ => true
theorem swap_of {e : Expr} {t : Option Expr} {l : Nat} {env : PySem.Env} (h : noLc e = true) : swapsWith e t l env = pure false := by
  cases e <;> first | rfl | cases h
def isLoc (N : List Str) (sc : Scope) (i : Nat) (x : Str) : Bool := decide (N[i]? = some x) && decide (sc.names.lookup x = some .local)
/-- a name that a def stores to -/
def isSto (N : List Str) (sc : Scope) (i : Nat) (x : Str) : Bool := decide (N[i]? = some x) && (match sc.names.lookup x with
  | some .local => true
  | some .cell => true
  | _ => false)
def isVis (N : List Str) (sc : Scope) (i : Nat) (x : Str) : Bool := decide (N[i]? = some x) && (match sc.names.lookup x with
  | some .local => true
  | some .cell => true
  | some .free => true
  | _ => false) && okName x
def isGlo (sc : Scope) (x : Str) : Bool := decide (sc.names.lookup x = some .globalImplicit) && okName x
theorem isLoc_ok {N : List Str} {sc : Scope} {i : Nat} {x : Str} (h : isLoc N sc i x = true) : N[i]? = some x ∧ sc.names.lookup x = some .local := by
  unfold isLoc at h
  rw [Bool.and_eq_true, decide_eq_true_eq, decide_eq_true_eq] at h
  exact h
theorem isSto_ok {N : List Str} {sc : Scope} {i : Nat} {x : Str} (h : isSto N sc i x = true) : N[i]? = some x ∧ L2.Loc sc x := by
  unfold isSto at h
  rw [Bool.and_eq_true, decide_eq_true_eq] at h
  refine ⟨h.1, ?_⟩
  have h := h.2
  unfold L2.Loc
  split at h
  · exact .inl (by assumption)
  · exact .inr (by assumption)
  · cases h
theorem isVis_ok {N : List Str} {sc : Scope} {i : Nat} {x : Str} (h : isVis N sc i x = true) : N[i]? = some x ∧ Vis sc x ∧ okName x = true := by
  unfold isVis at h
  rw [Bool.and_eq_true, Bool.and_eq_true, decide_eq_true_eq] at h
  obtain ⟨⟨h1, h2⟩, h3⟩ := h
  refine ⟨h1, ?_, h3⟩
  unfold Vis
  split at h2
  · exact .inl (by assumption)
  · exact .inr (.inl (by assumption))
  · exact .inr (.inr (by assumption))
  · cases h2
theorem isGlo_ok {sc : Scope} {x : Str} (h : isGlo sc x = true) : sc.names.lookup x = some .globalImplicit ∧ okName x = true := by
  unfold isGlo at h
  rw [Bool.and_eq_true, decide_eq_true_eq] at h
  exact h
def Bo.of : Operator → Option Bo
  | .Add => some .add | .Sub => some .sub | .Mult => some .mul | .FloorDiv => some .fdiv | .Mod => some .mod | .Pow => some .pow
  | _ => none
def conB : D → Const → Bool
  | .non, .none => true
  | .bl b, .bool c => b == c
  | .int i, .int j => decide (i = j)
  | .str x, .str y => decide (x = y)
  | _, _ => false
theorem pe_conB {X : Cx} {d : D} {c : Const} {k p} (h : conB d c = true) : ∃ v, conV d = some v ∧ PE X (.Constant c k p) (tC v) := by
  cases d <;> cases c <;> simp [conB] at h
  · exact ⟨_, rfl, pe_non⟩
  · subst h; exact ⟨_, rfl, pe_bl⟩
  · subst h; exact ⟨_, rfl, pe_int⟩
  · subst h; exact ⟨_, rfl, pe_str⟩
/-! ### tables -/
structure Tab where
  fns : List (Str × Nat × Nat) := []
  xcs : List (Str × Nat) := []
  xfs : List (Nat × Str) := []
  ics : List (Str × Ic) := []
  free : List Str := []
/-- a class that may be made, by facts of the module alone -/
def MkF (P : Program) (w : World) (K : PySem.W.Frag) (mg : Str → Option Value) (base : Heap) (k : Nat) (C : Addr) (fs : List Str) : Prop :=
  (fs = [] ∧ ∃ B newId initId bmB, ExcBaseFacts B newId initId bmB ∧ excIn K C bmB newId = true) ∨
  (fs ≠ [] ∧ fs.length ≤ 900 ∧ XcK K C ∧ ∃ fI fd ps j, j + 1 ≤ k ∧ findIn K (.ref C) "__init__" = some (some (.ref fI)) ∧ typeIn K (.ref fI) = some (.type "function") ∧ FnG P w K mg base j fI fd ps (spI C fs) ∧ Binds K fd ps [])
theorem MkF.ok {X : Cx} {k : Nat} {C : Addr} {fs : List Str} (h : MkF X.prog X.w X.K X.mg X.base k C fs) (hr : Room k X.A) (hg : X.A.guards = some []) : MkOk X C fs := by
  rcases h with ⟨rfl, B, n, i, bmB, F, q⟩ | ⟨h1, h2, T, fI, fd, ps, j, hj, h3, h4, h5, h6⟩
  · exact mk_none F q
  · exact mk_own T h3 h4 h5 (hr.mono hj) hg h6 h1 h2
structure TabR (T : Tab) (P : Program) (w : World) (K : PySem.W.Frag) (mg : Str → Option Value) (base : Heap) (ca : Nat → Addr) (px : PrX) (k : Nat) : Prop where
  fns : ∀ x g n, T.fns.lookup x = some (g, n) → ∃ ga fd ps j, j ≤ k ∧ mg x = some (.ref ga) ∧ keepIn K (.ref ga) = true ∧ Binds K fd ps [] ∧ FnG P w K mg base j ga fd ps (spF K ca px.call g n)
  xcs : ∀ x c, T.xcs.lookup x = some c → mg x = some (.ref (ca c)) ∧ keepIn K (.ref (ca c)) = true ∧ MkF P w K mg base k (ca c) (px.exf c)
  xfs : ∀ c f, (c, f) ∈ T.xfs → XcI K (ca c) ∧ findIn K (.ref (ca c)) f = some none
  ics : ∀ x ic, T.ics.lookup x = some ic → match ic with
    | .ty n => mg x = none ∧ bootBuiltins x = some (.type n) ∧ x ≠ "__name__"
    | .cls c => mg x = some (.ref (ca c))
    | .two _ _ => False
  isa : ∀ k ic r, px.isa k ic = some r → XcI K (ca k) ∧ kitOne K (.ref (ca k)) (icV ca ic) = some r
  free : ∀ x, x ∈ T.free → mg x = none
structure XR (T : Tab) (X : Cx) (ca : Nat → Addr) (W : WX) (px : PrX) (k : Nat) (N : List Str) (sc : Scope) : Prop where
  n : X.N = N
  nd : N.Nodup
  sc : X.env.scope = sc
  calm : X.calm = true
  hg : X.A.guards = some []
  room : Room k X.A
  tk : Takes X W
  tab : TabR T X.prog X.w X.K X.mg X.base ca px k
section
variable {T : Tab} {X : Cx} {ca : Nat → Addr} {W : WX} {px : PrX} {k : Nat} {N : List Str} {sc : Scope}
theorem XR.units (R : XR T X ca W px k N sc) : X.A.units + 64 < cLine := by have := R.room.un; omega
theorem XR.gl (R : XR T X ca W px k N sc) {x : Str} (h : isGlo sc x = true) : Gl X x := by
  unfold Gl Env.kindOf
  rw [R.sc]
  exact (isGlo_ok h).1
theorem XR.blk (R : XR T X ca W px k N sc) {s : Shared} {H : Hp} {scope : Scope} {cl : List (Str × Addr)} {C : Addr} {fp : List Addr} : XR T (X.blk s H scope (compEnvC scope cl C X.env) fp) ca W0 px k N (relS scope sc) where
  n := R.n
  nd := R.nd
  sc := by rw [← R.sc]; rfl
  calm := R.calm
  hg := R.hg
  room := R.room
  tk := fun u s' ⟨_, _, _, _, _, _, _, _, _, _, _, _, _, _, _, _, z⟩ => z
  tab := R.tab
end
end Mx
end

section
set_option maxRecDepth 100000
set_option maxHeartbeats 4000000
/-! Mx20: the checker of expressions, sound. -/
namespace Mx
open PySem PySem.Spec PyProof.Rows L2 PySem.W PySem.HandSPX
def obB {α : Type} (o : Option α) (f : α → Bool) : Bool := match o with
  | some x => f x
  | none => false
theorem obB_ok {α : Type} {o : Option α} {f : α → Bool} (h : obB o f = true) : ∃ x, o = some x ∧ f x = true := by
  cases o with
  | none => cases h
  | some x => exact ⟨x, rfl, h⟩
structure Ck where
  e : Scope → Expr → Bool
  t : Scope → Expr → Bool
  an : Scope → List Expr → Bool
  or : Scope → List Expr → Bool
  ant : Scope → List Expr → Bool
  ort : Scope → List Expr → Bool
  a : Scope → List Expr → Bool
  l : Scope → Expr → Bool
  lc : Scope → Nat → Str → Nat → Expr → Bool
  i : Scope → Expr → Expr → Bool
def one1 (E : Scope → Expr → Bool) (sc : Scope) : List Expr → Bool
  | [x] => E sc x
  | _ => false
def no1 {α : Type} (_ : Scope) (_ : α) : Bool := false
def no2 {α β : Type} (_ : Scope) (_ : α) (_ : β) : Bool := false
def no4 {α β γ δ : Type} (_ : Scope) (_ : α) (_ : β) (_ : γ) (_ : δ) : Bool := false
/-- a value -/
def Ck.val (E : Scope → Expr → Bool) : Ck := ⟨E, fun sc x => plainT x && E sc x, one1 E, one1 E, one1 (fun sc x => plainT x && E sc x), one1 (fun sc x => plainT x && E sc x), no1, no1, no4, no2⟩
/-- a value with a test of its own -/
def Ck.tst (E T : Scope → Expr → Bool) : Ck := ⟨E, T, one1 E, one1 E, one1 T, one1 T, no1, no1, no4, no2⟩
def Ck.args (A : Scope → List Expr → Bool) : Ck := ⟨no1, no1, no1, no1, no1, no1, A, no1, no4, no2⟩
def Ck.list (L : Scope → Expr → Bool) (LC : Scope → Nat → Str → Nat → Expr → Bool) : Ck := ⟨L, no1, one1 L, one1 L, no1, no1, no1, L, LC, no2⟩
def Ck.iter (I : Scope → Expr → Expr → Bool) : Ck := ⟨no1, no1, no1, no1, no1, no1, no1, no1, no4, I⟩
section
variable (T : Tab) (ca : Nat → Addr) (px : PrX) (k : Nat) (N : List Str)
structure CkOk (x : Ex) (c : Ck) : Prop where
  e : ∀ sc ast, c.e sc ast = true → ∀ X W, XR T X ca W px k N sc → PE X ast (RE X ca W px x)
  t : ∀ sc ast, c.t sc ast = true → ∀ X W, XR T X ca W px k N sc → PT X ast (RT X ca W px x)
  an : ∀ sc l, c.an sc l = true → ∀ X W pos, XR T X ca W px k N sc → PE X (.BoolOp .And l pos) (RE X ca W px x)
  or : ∀ sc l, c.or sc l = true → ∀ X W pos, XR T X ca W px k N sc → PE X (.BoolOp .Or l pos) (RE X ca W px x)
  ant : ∀ sc l, c.ant sc l = true → ∀ X W pos, XR T X ca W px k N sc → PW X (.BoolOp .And l pos) (RT X ca W px x)
  ort : ∀ sc l, c.ort sc l = true → ∀ X W pos, XR T X ca W px k N sc → PW X (.BoolOp .Or l pos) (RT X ca W px x)
  a : ∀ sc l, c.a sc l = true → ∀ X W, XR T X ca W px k N sc → PA X l (RA X ca W px x)
  l : ∀ sc ast, c.l sc ast = true → ∀ X W, XR T X ca W px k N sc → PE X ast (RL X ca W px x)
  lc : ∀ sc i y ln ast, c.lc sc i y ln ast = true → ∀ X W py pos, XR T X ca W px k N sc → py.line = ln → pos.line = ln → isLoc N sc i y = true → X.env.scope.kind = .function → PS X (.Assign [.Name y py] ast pos) (tAsg (RL X ca W px x) (gName i))
  i : ∀ sc tg ast, c.i sc tg ast = true → ∀ X W, XR T X ca W px k N sc → PI X tg ast (RIt X ca W px x)
end
section
variable {T : Tab} {ca : Nat → Addr} {px : PrX} {k : Nat} {N : List Str} {x : Ex}
theorem one1_ok {E : Scope → Expr → Bool} {sc : Scope} {l : List Expr} (h : one1 E sc l = true) : ∃ x, l = [x] ∧ E sc x = true := by
  unfold one1 at h
  split at h
  · exact ⟨_, rfl, h⟩
  · cases h
theorem ba {a b : Bool} (h : (a && b) = true) : a = true ∧ b = true := Bool.and_eq_true_iff.mp h
theorem CkOk.tst {E Ts : Scope → Expr → Bool} (he : ∀ sc ast, E sc ast = true → ∀ X W, XR T X ca W px k N sc → PE X ast (RE X ca W px x)) (ht : ∀ sc ast, Ts sc ast = true → ∀ X W, XR T X ca W px k N sc → PT X ast (RT X ca W px x)) : CkOk T ca px k N x (Ck.tst E Ts) where
  e := he
  t := ht
  an := fun sc l h X W pos R => by obtain ⟨y, rfl, q⟩ := one1_ok h; exact pe_one (he sc y q X W R)
  or := fun sc l h X W pos R => by obtain ⟨y, rfl, q⟩ := one1_ok h; exact pe_one (he sc y q X W R)
  ant := fun sc l h X W pos R => by obtain ⟨y, rfl, q⟩ := one1_ok h; exact pw_and1 (ht sc y q X W R)
  ort := fun sc l h X W pos R => by obtain ⟨y, rfl, q⟩ := one1_ok h; exact pw_or1 (ht sc y q X W R)
  a := fun _ _ h => by cases h
  l := fun _ _ h => by cases h
  lc := fun _ _ _ _ _ h => by cases h
  i := fun _ _ _ h => by cases h
theorem CkOk.val {E : Scope → Expr → Bool} (he : ∀ sc ast, E sc ast = true → ∀ X W, XR T X ca W px k N sc → PE X ast (RE X ca W px x)) : CkOk T ca px k N x (Ck.val E) :=
  CkOk.tst he fun sc ast h X W R => st_val (he sc ast (ba h).2 X W R) (true_of (ba h).1)
theorem CkOk.args {A : Scope → List Expr → Bool} (ha : ∀ sc l, A sc l = true → ∀ X W, XR T X ca W px k N sc → PA X l (RA X ca W px x)) : CkOk T ca px k N x (Ck.args A) where
  e := fun _ _ h => by cases h
  t := fun _ _ h => by cases h
  an := fun _ _ h => by cases h
  or := fun _ _ h => by cases h
  ant := fun _ _ h => by cases h
  ort := fun _ _ h => by cases h
  a := ha
  l := fun _ _ h => by cases h
  lc := fun _ _ _ _ _ h => by cases h
  i := fun _ _ _ h => by cases h
theorem CkOk.iter {I : Scope → Expr → Expr → Bool} (hi : ∀ sc tg ast, I sc tg ast = true → ∀ X W, XR T X ca W px k N sc → PI X tg ast (RIt X ca W px x)) : CkOk T ca px k N x (Ck.iter I) where
  e := fun _ _ h => by cases h
  t := fun _ _ h => by cases h
  an := fun _ _ h => by cases h
  or := fun _ _ h => by cases h
  ant := fun _ _ h => by cases h
  ort := fun _ _ h => by cases h
  a := fun _ _ h => by cases h
  l := fun _ _ h => by cases h
  lc := fun _ _ _ _ _ h => by cases h
  i := hi
theorem CkOk.list {L : Scope → Expr → Bool} {LC : Scope → Nat → Str → Nat → Expr → Bool} (hx : ∀ P ρ S, evE P ρ x S = (evL P ρ x S).bind fun ds S1 => .ok (.lst ds) S1) (hl : ∀ sc ast, L sc ast = true → ∀ X W, XR T X ca W px k N sc → PE X ast (RL X ca W px x))
    (hlc : ∀ sc i y ln ast, LC sc i y ln ast = true → ∀ X W py pos, XR T X ca W px k N sc → py.line = ln → pos.line = ln → isLoc N sc i y = true → X.env.scope.kind = .function → PS X (.Assign [.Name y py] ast pos) (tAsg (RL X ca W px x) (gName i))) : CkOk T ca px k N x (Ck.list L LC) where
  e := fun sc ast h X W R => se_lst (hl sc ast h X W R) (hx px)
  t := fun _ _ h => by cases h
  an := fun sc l h X W pos R => by obtain ⟨y, rfl, q⟩ := one1_ok h; exact pe_one (se_lst (hl sc y q X W R) (hx px))
  or := fun sc l h X W pos R => by obtain ⟨y, rfl, q⟩ := one1_ok h; exact pe_one (se_lst (hl sc y q X W R) (hx px))
  ant := fun _ _ h => by cases h
  ort := fun _ _ h => by cases h
  a := fun _ _ h => by cases h
  l := hl
  lc := hlc
  i := fun _ _ _ h => by cases h
end
/-! ### targets -/
def namC (L : Nat → Str → Bool) : List Nat → List Expr → Bool
  | [], [] => true
  | i :: l, e :: es => obB (vName e) (L i) && namC L l es
  | _, _ => false
def tgC (L : Nat → Str → Bool) (t : Tg) (e : Expr) : Bool := match t with
  | .name i => obB (vName e) (L i)
  | .tup l => obB (vTup e) (namC L l)
/-- own names of a comprehension's block -/
def ownC (N : List Str) : List Nat → List (Str × Nat)
  | [] => []
  | i :: l => ((N[i]?).getD "", i) :: ownC N l
theorem ownC_map {N : List Str} : ∀ l, (ownC N l).map (·.2) = l
  | [] => rfl
  | i :: l => by simp [ownC, ownC_map l]
section
variable {X : Cx} {L : Nat → Str → Bool}
theorem pg_names (nd : X.N.Nodup) (hL : ∀ i x, L i x = true → X.N[i]? = some x ∧ L2.Loc X.env.scope x ∧ (X.fn x = true ∨ X.env.scope.names.lookup x = some .local)) : ∀ {l : List Nat} {es : List Expr}, namC L l es = true → PGs X es (gNs l) ∧ (assignEach es X.env).length = l.length ∧ (assignEach es X.env).findIdx? (·.1) = none
  | [], [], _ => ⟨pgs_nil, rfl, rfl⟩
  | [], _ :: _, h => by cases h
  | _ :: _, [], h => by cases h
  | i :: l, e :: es, h => by
    obtain ⟨h1, h2⟩ := ba (show (obB (vName e) (L i) && namC L l es) = true from h)
    obtain ⟨p1, p2, p3⟩ := pg_names nd hL h2
    obtain ⟨x, hx, h1⟩ := obB_ok h1
    obtain ⟨q1, q2, q3⟩ := hL i x h1
    obtain ⟨p, rfl⟩ := vName_ok hx
    refine ⟨pgs_cons (pg_name nd q1 q2 q3) p1 rfl, ?_, ?_⟩
    · show (assignEach es X.env).length + 1 = _
      rw [p2]; rfl
    · show List.findIdx? (·.1) ((false, _) :: assignEach es X.env) = none
      rw [List.findIdx?_cons]
      simp [p3]
theorem pg_tg (nd : X.N.Nodup) (hc : X.calm = true) (hL : ∀ i x, L i x = true → X.N[i]? = some x ∧ L2.Loc X.env.scope x ∧ (X.fn x = true ∨ X.env.scope.names.lookup x = some .local)) {t : Tg} {e : Expr} (h : tgC L t e = true) : PG X e (gT X.K t) := by
  cases t with
  | name i =>
    obtain ⟨x, hx, h⟩ := obB_ok (show obB (vName e) (L i) = true from h)
    obtain ⟨q1, q2, q3⟩ := hL i x h
    obtain ⟨p, rfl⟩ := vName_ok hx
    exact pg_name nd q1 q2 q3
  | tup l =>
    obtain ⟨es, hx, h⟩ := obB_ok (show obB (vTup e) (namC L l) = true from h)
    obtain ⟨k, p, rfl⟩ := vTup_ok hx
    obtain ⟨p1, p2, p3⟩ := pg_names nd hL h
    exact pg_tup hc p1 p2 p3
theorem loc_L {N : List Str} {sc : Scope} (hn : X.N = N) (hs : X.env.scope = sc) : ∀ i x, isLoc N sc i x = true → X.N[i]? = some x ∧ L2.Loc X.env.scope x ∧ (X.fn x = true ∨ X.env.scope.names.lookup x = some .local) := fun i x h => by
  obtain ⟨q1, q2⟩ := isLoc_ok h
  rw [hn, hs]
  exact ⟨q1, .inl q2, .inr q2⟩
theorem sto_L {N : List Str} {sc : Scope} (hn : X.N = N) (hs : X.env.scope = sc) (hf : ∀ x, X.fn x = true) : ∀ i x, isSto N sc i x = true → X.N[i]? = some x ∧ L2.Loc X.env.scope x ∧ (X.fn x = true ∨ X.env.scope.names.lookup x = some .local) := fun i x h => by
  obtain ⟨q1, q2⟩ := isSto_ok h
  rw [hn, hs]
  exact ⟨q1, q2, .inl (hf x)⟩
end
end Mx
end

section
set_option maxRecDepth 100000
set_option maxHeartbeats 8000000
/-! Mx21: the checker itself. -/
namespace Mx
open PySem PySem.Spec PyProof.Rows L2 PySem.W PySem.HandSPX
def isNil : Ex → Bool
  | .nil => true
  | _ => false
def isYes : Ex → Bool
  | .con (.bl true) => true
  | _ => false
def biB (b : Bi) (x : Str) : Bool := match b with
  | .len => decide (x = "len")
  | .abs => decide (x = "abs")
  | .int => decide (x = "int")
  | .min2 => decide (x = "min")
  | .max2 => decide (x = "max")
  | .repr => decide (x = "repr")
  | _ => false
def nonE {α : Type} : List α → Bool
  | [] => false
  | _ => true
def tail2 {α : Type} (f : α → α → List α → Bool) : List α → Bool
  | x :: y :: r => f x y r
  | _ => false
def head1 {α : Type} (f : α → List α → Bool) : List α → Bool
  | x :: r => f x r
  | _ => false
def only1 {α : Type} (f : α → Bool) : List α → Bool
  | [x] => f x
  | _ => false
def only2 {α : Type} (f : α → α → Bool) : List α → Bool
  | [x, y] => f x y
  | _ => false
section
variable (T : Tab) (N : List Str)
def compC (t : Tg) (s c e : Ck) (cy : Bool) (sc : Scope) (z : Expr × Expr × Expr × List Expr × Scope) : Bool :=
  noSet z.2.2.1 && (s.i sc z.2.1 z.2.2.1 && (blkC N sc z.2.2.2.2 (ownC N t.slots) && (tgC (isLoc N (relS z.2.2.2.2 sc)) t z.2.1 && ((match z.2.2.2.1 with
    | [] => cy
    | [x] => c.t (relS z.2.2.2.2 sc) x
    | _ => false) && e.e (relS z.2.2.2.2 sc) z.1))))
def chk : Ex → Ck
  | .var i => .val fun sc e => obB (vName e) (isVis N sc i)
  | .con d => .val fun sc e => obB (vCon e) (conB d)
  | .bin o a b => .val fun sc e => obB (vBin e) fun z => decide (o.op = z.2.1) && ((chk a).e sc z.1 && (chk b).e sc z.2.2)
  | .neg a => .val fun sc e => obB (vUn e) fun z => decide (z.1 = .USub) && (chk a).e sc z.2
  | .notE a => .tst (fun sc e => obB (vUn e) fun z => decide (z.1 = .Not) && (chk a).e sc z.2) (fun sc e => obB (vUn e) fun z => decide (z.1 = .Not) && (chk a).t sc z.2)
  | .andE a b =>
    let A := fun sc => tail2 fun x y r => (chk a).e sc x && (chk b).an sc (y :: r)
    let B := fun sc => tail2 fun x y r => (chk a).t sc x && (chk b).ant sc (y :: r)
    ⟨fun sc e => obB (vBool e) fun z => decide (z.1 = .And) && A sc z.2, fun sc e => obB (vBool e) fun z => decide (z.1 = .And) && B sc z.2, A, no1, B, no1, no1, no1, no4, no2⟩
  | .orE a b =>
    let A := fun sc => tail2 fun x y r => (chk a).e sc x && (chk b).or sc (y :: r)
    let B := fun sc => tail2 fun x y r => (chk a).t sc x && (chk b).ort sc (y :: r)
    ⟨fun sc e => obB (vBool e) fun z => decide (z.1 = .Or) && A sc z.2, fun sc e => obB (vBool e) fun z => decide (z.1 = .Or) && B sc z.2, no1, A, no1, B, no1, no1, no4, no2⟩
  | .ite t a b => .tst (fun sc e => obB (vIf e) fun z => (chk t).t sc z.1 && ((chk a).e sc z.2.1 && (chk b).e sc z.2.2)) no1
  | .cmp o a b =>
    let C := fun sc e => obB (vCmp e) fun z => decide (o.op = z.2.1) && (noSet z.2.2 && ((chk a).e sc z.1 && (chk b).e sc z.2.2))
    .tst C C
  | .nil => .args fun _ l => l.isEmpty
  | .cons a b => .args fun sc => head1 fun e es => noStar e && ((chk a).e sc e && (chk b).a sc es)
  | .tup l => .val fun sc e => obB (vTup e) ((chk l).a sc)
  | .lst l => .list (fun sc e => obB (vLst e) ((chk l).a sc)) (fun sc _ _ _ e => obB (vLst e) ((chk l).a sc))
  | .call g l => .val fun sc e => obB (vCall e) fun z => isGlo sc z.1 && (allStar z.2 && (decide (T.fns.lookup z.1 = some (g, z.2.length)) && ((nonE z.2 || isNil l) && (chk l).a sc z.2)))
  | .mk c l => .val fun sc e => obB (vCall e) fun z => isGlo sc z.1 && (allStar z.2 && (decide (T.xcs.lookup z.1 = some c) && ((nonE z.2 || isNil l) && (chk l).a sc z.2)))
  | .bi b l => .val fun sc e => obB (vCall e) fun z => isGlo sc z.1 && (allStar z.2 && (biB b z.1 && (decide (z.1 ∈ T.free) && (nonE z.2 && (chk l).a sc z.2))))
  | .isi a ic => .val fun sc e => obB (vCall e) fun z => isGlo sc z.1 && (decide (z.1 = "isinstance") && (decide (z.1 ∈ T.free) && only2 (fun ea ec => noStar ea && ((chk a).e sc ea && obB (vName ec) fun y => isGlo sc y && decide (T.ics.lookup y = some ic))) z.2))
  | .xfl c a f => .val fun sc e => obB (vAttr e) fun z => decide (z.2 = f) && (noBase z.1 && (decide ((c, f) ∈ T.xfs) && (chk a).e sc z.1))
  | .ix a i => .val fun sc e => obB (vSub e) fun z => okIx z.2 && ((chk a).e sc z.1 && (chk i).e sc z.2)
  | .comp t s c e => .list (fun sc x => obB (vComp x) (compC N t (chk s) (chk c) (chk e) (isYes c) sc))
      (fun sc _ y ln x => obB (vComp x) fun z => decide (x.pos.line = ln) && (!(z.2.2.2.2.names.any fun (n, k) => n == y && (k == .local || k == .cell)) && compC N t (chk s) (chk c) (chk e) (isYes c) sc z))
  | .seq a => .iter fun sc _ e => (chk a).e sc e
  | .rng1 a => .iter fun sc _ e => obB (vCall e) fun z => isGlo sc z.1 && (decide (z.1 = "range") && (decide (z.1 ∈ T.free) && only1 (fun x => noStar x && (chk a).e sc x) z.2))
  | .rng2 a b => .iter fun sc _ e => obB (vCall e) fun z => isGlo sc z.1 && (decide (z.1 = "range") && (decide (z.1 ∈ T.free) && only2 (fun x y => noStar x && (noStar y && ((chk a).e sc x && (chk b).e sc y))) z.2))
  | .enum a => .iter fun sc tg e => obB (vTup tg) fun _ => obB (vCall e) fun z => isGlo sc z.1 && (decide (z.1 = "enumerate") && (decide (z.1 ∈ T.free) && only1 (fun x => noStar x && (chk a).e sc x) z.2))
  | _ => .val no1
end
section
variable {T : Tab} {ca : Nat → Addr} {px : PrX} {k : Nat} {N : List Str}
theorem tail2_ok {α : Type} {f : α → α → List α → Bool} {l : List α} (h : tail2 f l = true) : ∃ x y r, l = x :: y :: r ∧ f x y r = true := by
  unfold tail2 at h; split at h
  · exact ⟨_, _, _, rfl, h⟩
  · cases h
theorem head1_ok {α : Type} {f : α → List α → Bool} {l : List α} (h : head1 f l = true) : ∃ x r, l = x :: r ∧ f x r = true := by
  unfold head1 at h; split at h
  · exact ⟨_, _, rfl, h⟩
  · cases h
theorem only1_ok {α : Type} {f : α → Bool} {l : List α} (h : only1 f l = true) : ∃ x, l = [x] ∧ f x = true := by
  unfold only1 at h; split at h
  · exact ⟨_, rfl, h⟩
  · cases h
theorem only2_ok {α : Type} {f : α → α → Bool} {l : List α} (h : only2 f l = true) : ∃ x y, l = [x, y] ∧ f x y = true := by
  unfold only2 at h; split at h
  · exact ⟨_, _, rfl, h⟩
  · cases h
theorem nonE_ok {α : Type} {l : List α} (h : nonE l = true) : ∃ x r, l = x :: r := by
  cases l with
  | nil => cases h
  | cons x r => exact ⟨x, r, rfl⟩
theorem isNil_ok {l : Ex} (h : isNil l = true) : l = .nil := by cases l <;> first | rfl | cases h
theorem isYes_ok {l : Ex} (h : isYes l = true) : l = .con (.bl true) := by unfold isYes at h; split at h <;> first | rfl | cases h
/-- as many values as arguments -/
theorem evA_len {P : PrX} {ρ : List Sl} : ∀ {l : Ex} {sc : Scope} {es : List Expr}, (chk T N l).a sc es = true → ∀ S ds S', evA P ρ l S = .ok ds S' → ds.length = es.length := by
  intro l
  induction l with
  | nil =>
    intro sc es h S ds S' e
    simp only [evA_nil] at e; cases e
    have h : es.isEmpty = true := h
    cases es with
    | nil => rfl
    | cons _ _ => cases h
  | cons a b iha ihb =>
    intro sc es h S ds S' e
    obtain ⟨x, r, rfl, h⟩ := head1_ok (show head1 _ es = true from h)
    have h2 := (ba (ba h).2).2
    simp only [evA_cons] at e
    cases e1 : evE P ρ a S with
    | stuck => rw [e1] at e; cases e
    | exc c fs S1 => rw [e1] at e; cases e
    | ok d S1 =>
      rw [e1, Res.bind_ok] at e
      cases e2 : evA P ρ b S1 with
      | stuck => rw [e2] at e; cases e
      | exc c fs S2 => rw [e2] at e; cases e
      | ok ds2 S2 =>
        rw [e2, Res.bind_ok] at e
        cases e
        simp [ihb h2 S1 ds2 _ e2]
  | _ => intro sc es h; cases h
theorem biB_ok {X : Cx} {W : WX} {sc : Scope} {b : Bi} {l : Ex} {x : Str} {e : Expr} {es : List Expr} {p q : Pos} (R : XR T X ca W px k N sc) (hb : biB b x = true) (hg : isGlo sc x = true) (hf : x ∈ T.free) (hs : allStar (e :: es) = true) (ha : PA X (e :: es) (RA X ca W px l)) : PE X (.Call (.Name x p) (e :: es) [] q) (RE X ca W px (.bi b l)) := by
  have st := star_cons (es := es) (env := X.env) (ba (show (noStar e && allStar es) = true from hs)).1
  have bt := star_all (env := X.env) (p := q) (ba (show (noStar e && allStar es) = true from hs)).2
  have mx := R.tab.free x hf
  have gl := R.gl hg
  have h2 := okName_1 (isGlo_ok hg).2
  cases b <;> first
    | (cases hb; done)
    | (cases of_decide_eq_true (show decide _ = true from hb)
       first
         | exact se_biB (id := "len") cb_len gl mx (by decide +kernel) ha (by decide) h2 st bt
         | exact se_biB (id := "abs") cb_abs gl mx (by decide +kernel) ha (by decide) h2 st bt
         | exact se_biT (id := "int") cb_int gl mx (by decide +kernel) ha (by decide) h2 st bt
         | exact se_biB (id := "max") (cb_max R.calm) gl mx (by decide +kernel) ha (by decide) h2 st bt
         | exact se_biB (id := "min") (cb_min R.calm) gl mx (by decide +kernel) ha (by decide) h2 st bt
         | exact se_biB (id := "repr") (cb_repr R.hg R.units) gl mx (by decide +kernel) ha (by decide) h2 st bt)
theorem pts_of {X : Cx} {W : WX} {sc : Scope} {c : Ex} (h : CkOk T ca px k N c (chk T N c)) {ifs : List Expr} (hi : (match ifs with
    | [] => isYes c
    | [x] => (chk T N c).t sc x
    | _ => false) = true) (R : XR T X ca W px k N sc) : PTs X ifs (RT X ca W px c) := by
  match ifs, hi with
  | [], hi =>
    rw [isYes_ok hi]
    refine ⟨fun pins s σ H Q I q => pts_nil.run pins s σ H Q I ?_⟩
    obtain ⟨ρ, S, f, B, at_, p⟩ := q
    unfold evT at p
    simp only [evE_con, Res.bind_ok] at p
    exact p f B H _ (.refl ..) at_.si rfl
  | [x], hi => exact pts_one (h.t sc x hi X W R)
theorem compC_ok {t : Tg} {s c e : Ex} (hs : CkOk T ca px k N s (chk T N s)) (hc : CkOk T ca px k N c (chk T N c)) (he : CkOk T ca px k N e (chk T N e)) {sc : Scope} {z : Expr × Expr × Expr × List Expr × Scope} (h : compC N t (chk T N s) (chk T N c) (chk T N e) (isYes c) sc z = true) {X : Cx} {W : WX} (R : XR T X ca W px k N sc) :
    PI X z.2.1 z.2.2.1 (RIt X ca W px s) ∧ BlkOk X.N X.env.scope z.2.2.2.2 (ownC N t.slots) ∧
    (∀ (sh : Shared) (H : Hp) (C : Addr) (cl : List (Str × Addr)) (fp : List Addr), PG (X.blk sh H z.2.2.2.2 (compEnvC z.2.2.2.2 cl C X.env) fp) z.2.1 (gT X.K t)) ∧
    (∀ (sh : Shared) (H : Hp) (C : Addr) (cl : List (Str × Addr)) (fp : List Addr), PTs (X.blk sh H z.2.2.2.2 (compEnvC z.2.2.2.2 cl C X.env) fp) z.2.2.2.1 (RT X ca W0 px c)) ∧
    (∀ (sh : Shared) (H : Hp) (C : Addr) (cl : List (Str × Addr)) (fp : List Addr), PE (X.blk sh H z.2.2.2.2 (compEnvC z.2.2.2.2 cl C X.env) fp) z.1 (RE X ca W0 px e)) ∧ ∀ x, foldedSetIterable z.2.2.1 X.env x = pure x := by
  obtain ⟨h1, h⟩ := ba h
  obtain ⟨h2, h⟩ := ba h
  obtain ⟨h3, h⟩ := ba h
  obtain ⟨h4, h⟩ := ba h
  obtain ⟨h5, h6⟩ := ba h
  refine ⟨hs.i sc _ _ h2 X W R, ?_, fun sh H C cl fp => ?_, fun sh H C cl fp => ?_, fun sh H C cl fp => ?_, folded_of h1⟩
  · rw [R.n, R.sc]; exact blkOk_by h3
  · exact pg_tg (X := X.blk sh H z.2.2.2.2 (compEnvC z.2.2.2.2 cl C X.env) fp) (by rw [(R.blk (s := sh) (H := H) (scope := z.2.2.2.2) (cl := cl) (C := C) (fp := fp)).n]; exact R.nd) R.calm (loc_L R.n (R.blk (s := sh) (H := H) (cl := cl) (C := C) (fp := fp)).sc) h4
  · exact pts_of hc h5 (R.blk (s := sh) (H := H) (cl := cl) (C := C) (fp := fp))
  · exact he.e _ _ h6 _ _ (R.blk (s := sh) (H := H) (cl := cl) (C := C) (fp := fp))
theorem val_no {x : Ex} : CkOk T ca px k N x (Ck.val no1) := CkOk.val fun _ _ h => by cases h
theorem chk_ok (x : Ex) : CkOk T ca px k N x (chk T N x) := by
  induction x with
  | var i =>
    exact CkOk.val fun sc ast h X W R => by
      obtain ⟨x, hx, h⟩ := obB_ok h
      obtain ⟨p, rfl⟩ := vName_ok hx
      obtain ⟨q1, q2, q3⟩ := isVis_ok h
      exact se_var (by rw [R.n]; exact q1) (by rw [R.sc]; exact q2) (okName_1 q3) (okName_2 q3)
  | con d =>
    exact CkOk.val fun sc ast h X W R => by
      obtain ⟨x, hx, h⟩ := obB_ok h
      obtain ⟨kk, p, rfl⟩ := vCon_ok hx
      obtain ⟨v, hv, he⟩ := pe_conB (X := X) (k := kk) (p := p) h
      exact se_con hv he
  | bin o a b iha ihb =>
    exact CkOk.val fun sc ast h X W R => by
      obtain ⟨⟨l, op, r⟩, hx, h⟩ := obB_ok h
      obtain ⟨h1, h⟩ := ba h
      obtain ⟨h2, h3⟩ := ba h
      obtain ⟨p, rfl⟩ := vBin_ok hx
      cases of_decide_eq_true h1
      exact se_bin (iha.e _ _ h2 X W R) (ihb.e _ _ h3 X W R)
  | neg a iha =>
    exact CkOk.val fun sc ast h X W R => by
      obtain ⟨⟨op, l⟩, hx, h⟩ := obB_ok h
      obtain ⟨h1, h2⟩ := ba h
      obtain ⟨p, rfl⟩ := vUn_ok hx
      cases of_decide_eq_true h1
      exact se_neg (iha.e _ _ h2 X W R)
  | notE a iha =>
    exact CkOk.tst (fun sc ast h X W R => by
      obtain ⟨⟨op, l⟩, hx, h⟩ := obB_ok h
      obtain ⟨h1, h2⟩ := ba h
      obtain ⟨p, rfl⟩ := vUn_ok hx
      cases of_decide_eq_true h1
      exact se_not (iha.e _ _ h2 X W R)) fun sc ast h X W R => by
      obtain ⟨⟨op, l⟩, hx, h⟩ := obB_ok h
      obtain ⟨h1, h2⟩ := ba h
      obtain ⟨p, rfl⟩ := vUn_ok hx
      cases of_decide_eq_true h1
      exact st_not (iha.t _ _ h2 X W R)
  | andE a b iha ihb =>
    have A : ∀ sc l, tail2 (fun x y r => (chk T N a).e sc x && (chk T N b).an sc (y :: r)) l = true → ∀ X W pos, XR T X ca W px k N sc → PE X (.BoolOp .And l pos) (RE X ca W px (.andE a b)) := fun sc l h X W pos R => by
      obtain ⟨x, y, r, rfl, h⟩ := tail2_ok h
      obtain ⟨h1, h2⟩ := ba h
      exact se_and (iha.e _ _ h1 X W R) (ihb.an _ _ h2 X W pos R)
    have B : ∀ sc l, tail2 (fun x y r => (chk T N a).t sc x && (chk T N b).ant sc (y :: r)) l = true → ∀ X W pos, XR T X ca W px k N sc → PW X (.BoolOp .And l pos) (RT X ca W px (.andE a b)) := fun sc l h X W pos R => by
      obtain ⟨x, y, r, rfl, h⟩ := tail2_ok h
      obtain ⟨h1, h2⟩ := ba h
      exact sw_and (iha.t _ _ h1 X W R) (ihb.ant _ _ h2 X W pos R)
    refine ⟨fun sc ast h X W R => ?_, fun sc ast h X W R => ?_, A, fun _ _ h => (by cases h), B, fun _ _ h => (by cases h), fun _ _ h => (by cases h), fun _ _ h => (by cases h), fun _ _ _ _ _ h => (by cases h), fun _ _ _ h => (by cases h)⟩
    · obtain ⟨⟨op, l⟩, hx, h⟩ := obB_ok h
      obtain ⟨h1, h2⟩ := ba h
      obtain ⟨p, rfl⟩ := vBool_ok hx
      cases of_decide_eq_true h1
      exact A _ _ h2 X W p R
    · obtain ⟨⟨op, l⟩, hx, h⟩ := obB_ok h
      obtain ⟨h1, h2⟩ := ba h
      obtain ⟨p, rfl⟩ := vBool_ok hx
      cases of_decide_eq_true h1
      exact (B _ _ h2 X W p R).pt
  | orE a b iha ihb =>
    have A : ∀ sc l, tail2 (fun x y r => (chk T N a).e sc x && (chk T N b).or sc (y :: r)) l = true → ∀ X W pos, XR T X ca W px k N sc → PE X (.BoolOp .Or l pos) (RE X ca W px (.orE a b)) := fun sc l h X W pos R => by
      obtain ⟨x, y, r, rfl, h⟩ := tail2_ok h
      obtain ⟨h1, h2⟩ := ba h
      exact se_or (iha.e _ _ h1 X W R) (ihb.or _ _ h2 X W pos R)
    have B : ∀ sc l, tail2 (fun x y r => (chk T N a).t sc x && (chk T N b).ort sc (y :: r)) l = true → ∀ X W pos, XR T X ca W px k N sc → PW X (.BoolOp .Or l pos) (RT X ca W px (.orE a b)) := fun sc l h X W pos R => by
      obtain ⟨x, y, r, rfl, h⟩ := tail2_ok h
      obtain ⟨h1, h2⟩ := ba h
      exact sw_or (iha.t _ _ h1 X W R) (ihb.ort _ _ h2 X W pos R)
    refine ⟨fun sc ast h X W R => ?_, fun sc ast h X W R => ?_, fun _ _ h => (by cases h), A, fun _ _ h => (by cases h), B, fun _ _ h => (by cases h), fun _ _ h => (by cases h), fun _ _ _ _ _ h => (by cases h), fun _ _ _ h => (by cases h)⟩
    · obtain ⟨⟨op, l⟩, hx, h⟩ := obB_ok h
      obtain ⟨h1, h2⟩ := ba h
      obtain ⟨p, rfl⟩ := vBool_ok hx
      cases of_decide_eq_true h1
      exact A _ _ h2 X W p R
    · obtain ⟨⟨op, l⟩, hx, h⟩ := obB_ok h
      obtain ⟨h1, h2⟩ := ba h
      obtain ⟨p, rfl⟩ := vBool_ok hx
      cases of_decide_eq_true h1
      exact (B _ _ h2 X W p R).pt
  | ite t a b iht iha ihb =>
    exact CkOk.tst (fun sc ast h X W R => by
      obtain ⟨⟨c, l, r⟩, hx, h⟩ := obB_ok h
      obtain ⟨h1, h⟩ := ba h
      obtain ⟨h2, h3⟩ := ba h
      obtain ⟨p, rfl⟩ := vIf_ok hx
      exact se_ite (iht.t _ _ h1 X W R) (iha.e _ _ h2 X W R) (ihb.e _ _ h3 X W R)) fun _ _ h => by cases h
  | cmp o a b iha ihb =>
    exact CkOk.tst (fun sc ast h X W R => by
      obtain ⟨⟨l, op, r⟩, hx, h⟩ := obB_ok h
      obtain ⟨h1, h⟩ := ba h
      obtain ⟨h2, h⟩ := ba h
      obtain ⟨h3, h4⟩ := ba h
      obtain ⟨p, rfl⟩ := vCmp_ok hx
      cases of_decide_eq_true h1
      exact se_cmp R.units (iha.e _ _ h3 X W R) (ihb.e _ _ h4 X W R) (marks_of h2)) fun sc ast h X W R => by
      obtain ⟨⟨l, op, r⟩, hx, h⟩ := obB_ok h
      obtain ⟨h1, h⟩ := ba h
      obtain ⟨h2, h⟩ := ba h
      obtain ⟨h3, h4⟩ := ba h
      obtain ⟨p, rfl⟩ := vCmp_ok hx
      cases of_decide_eq_true h1
      exact st_cmp R.units (iha.e _ _ h3 X W R) (ihb.e _ _ h4 X W R) (marks_of h2)
  | nil =>
    exact CkOk.args fun sc l h X W R => by
      have h : l.isEmpty = true := h
      cases l with
      | nil => exact sa_nil
      | cons _ _ => cases h
  | cons a b iha ihb =>
    exact CkOk.args fun sc l h X W R => by
      obtain ⟨x, r, rfl, h⟩ := head1_ok h
      obtain ⟨h1, h⟩ := ba h
      obtain ⟨h2, h3⟩ := ba h
      exact sa_cons (iha.e _ _ h2 X W R) (ihb.a _ _ h3 X W R) (star_cons h1)
  | tup l ih =>
    exact CkOk.val fun sc ast h X W R => by
      obtain ⟨es, hx, h⟩ := obB_ok h
      obtain ⟨kk, p, rfl⟩ := vTup_ok hx
      exact se_tup (ih.a _ _ h X W R)
  | lst l ih =>
    refine CkOk.list (fun P ρ S => evE_lst) (fun sc ast h X W R => ?_) (fun sc i y ln ast h X W py pos R h1 h2 h3 h4 => ?_)
    · obtain ⟨es, hx, h⟩ := obB_ok h
      obtain ⟨p, rfl⟩ := vLst_ok hx
      exact sl_lst (ih.a _ _ h X W R)
    · obtain ⟨es, hx, h⟩ := obB_ok h
      obtain ⟨p, rfl⟩ := vLst_ok hx
      obtain ⟨q1, q2⟩ := isLoc_ok h3
      have hl : X.env.scope.names.lookup y = some .local := by rw [R.sc]; exact q2
      exact ps_set (by rw [R.n]; exact R.nd) (by rw [R.n]; exact q1) (.inl hl) (sl_lst (ih.a _ _ h X W R)) (swap_of rfl) (.inr hl)
  | call g l ih =>
    exact CkOk.val fun sc ast h X W R => by
      obtain ⟨⟨x, es⟩, hx, h⟩ := obB_ok h
      obtain ⟨p, q, rfl⟩ := vCall_ok hx
      obtain ⟨h1, h⟩ := ba h
      obtain ⟨h2, h⟩ := ba h
      obtain ⟨h3, h⟩ := ba h
      obtain ⟨h4, h5⟩ := ba h
      obtain ⟨ga, fd, ps, j, hj, mx, kp, hb, F⟩ := R.tab.fns x g es.length (of_decide_eq_true h3)
      cases es with
      | nil =>
        have hl := isNil_ok (show isNil l = true from h4)
        subst hl
        exact se_call0 R.tk F (R.room.mono hj) R.hg (R.gl h1) mx kp hb (okName_1 (isGlo_ok h1).2)
      | cons e es =>
        obtain ⟨h6, h7⟩ := ba (show (noStar e && allStar es) = true from h2)
        exact se_call R.tk F (R.room.mono hj) R.hg (R.gl h1) mx kp hb (ih.a _ _ h5 X W R) (okName_1 (isGlo_ok h1).2) (star_cons h6) (star_all h7) fun ρ S ds S' e => evA_len h5 S ds S' e
  | mk c l ih =>
    exact CkOk.val fun sc ast h X W R => by
      obtain ⟨⟨x, es⟩, hx, h⟩ := obB_ok h
      obtain ⟨p, q, rfl⟩ := vCall_ok hx
      obtain ⟨h1, h⟩ := ba h
      obtain ⟨h2, h⟩ := ba h
      obtain ⟨h3, h⟩ := ba h
      obtain ⟨h4, h5⟩ := ba h
      obtain ⟨mx, kC, M⟩ := R.tab.xcs x c (of_decide_eq_true h3)
      have M := M.ok R.room R.hg
      cases es with
      | nil =>
        have hl := isNil_ok (show isNil l = true from h4)
        subst hl
        refine ⟨fun pins s σ H Q I h => ?_⟩
        have hh := mk_rd h
        obtain ⟨ρ, S, f, B, at_, z⟩ := hh
        simp only [evA_nil] at z
        obtain ⟨z1, z2⟩ := z f B H [] (.refl ..) at_.si .nil
        have ef : px.exf c = [] := by
          cases e : px.exf c with
          | nil => rfl
          | cons _ _ => rw [e] at z1; cases z1
        rw [ef] at M z2
        exact (pe_mkX0 M kC (R.gl h1) mx (okName_1 (isGlo_ok h1).2)).run pins s σ H Q I ⟨rfl, z2⟩
      | cons e es =>
        obtain ⟨h6, h7⟩ := ba (show (noStar e && allStar es) = true from h2)
        exact (pe_mkX M kC (R.gl h1) mx (ih.a _ _ h5 X W R) (okName_1 (isGlo_ok h1).2) (star_cons h6) (star_all h7)).imp fun σ H Q h => mk_rd h
  | bi b l ih =>
    exact CkOk.val fun sc ast h X W R => by
      obtain ⟨⟨x, es⟩, hx, h⟩ := obB_ok h
      obtain ⟨p, q, rfl⟩ := vCall_ok hx
      obtain ⟨h1, h⟩ := ba h
      obtain ⟨h2, h⟩ := ba h
      obtain ⟨h3, h⟩ := ba h
      obtain ⟨h4, h⟩ := ba h
      obtain ⟨h5, h6⟩ := ba h
      obtain ⟨e, es, rfl⟩ := nonE_ok (show nonE es = true from h5)
      exact biB_ok R h3 h1 (of_decide_eq_true h4) h2 (ih.a _ _ h6 X W R)
  | isi a ic ih =>
    exact CkOk.val fun sc ast h X W R => by
      obtain ⟨⟨x, es⟩, hx, h⟩ := obB_ok h
      obtain ⟨p, q, rfl⟩ := vCall_ok hx
      obtain ⟨h1, h⟩ := ba h
      obtain ⟨h2, h⟩ := ba h
      obtain ⟨h3, h⟩ := ba h
      obtain ⟨ea, ec, rfl, h⟩ := only2_ok h
      obtain ⟨h4, h⟩ := ba h
      obtain ⟨h5, h⟩ := ba h
      obtain ⟨y, hy, h⟩ := obB_ok h
      obtain ⟨h6, h7⟩ := ba h
      obtain ⟨p2, rfl⟩ := vName_ok hy
      have ex : x = "isinstance" := of_decide_eq_true h2
      subst ex
      have hc : PE X (.Name y p2) (tC (icW ca ic)) := by
        have z := R.tab.ics y ic (of_decide_eq_true h7)
        cases ic with
        | ty n => exact pe_bltn (R.gl h6) z.1 z.2.1 rfl z.2.2 (okName_1 (isGlo_ok h6).2)
        | cls c => exact pe_glob (R.gl h6) z rfl (okName_1 (isGlo_ok h6).2)
        | two _ _ => exact z.elim
      refine se_isi (R.gl h1) (R.tab.free _ (of_decide_eq_true h3)) (ih.e _ _ h5 X W R) hc (fun kk r e => R.tab.isa kk ic r e) ?_ rfl
      rw [star_cons h4]; rfl
  | xfl c a f ih =>
    exact CkOk.val fun sc ast h X W R => by
      obtain ⟨⟨o, x⟩, hx, h⟩ := obB_ok h
      obtain ⟨p, rfl⟩ := vAttr_ok hx
      obtain ⟨h1, h⟩ := ba h
      obtain ⟨h2, h⟩ := ba h
      obtain ⟨h3, h4⟩ := ba h
      have ex : x = f := of_decide_eq_true h1
      subst ex
      obtain ⟨z1, z2⟩ := R.tab.xfs c x (of_decide_eq_true h3)
      exact se_xfl z1 z2 (ih.e _ _ h4 X W R) (base_of h2)
  | ix a i iha ihi =>
    exact CkOk.val fun sc ast h X W R => by
      obtain ⟨⟨o, x⟩, hx, h⟩ := obB_ok h
      obtain ⟨p, rfl⟩ := vSub_ok hx
      obtain ⟨h1, h⟩ := ba h
      obtain ⟨h2, h3⟩ := ba h
      exact se_ix (iha.e _ _ h2 X W R) (ihi.e _ _ h3 X W R) (ix_of h1)
  | comp t s c e ihs ihc ihe =>
    refine CkOk.list (fun P ρ S => evE_comp) (fun sc ast h X W R => ?_) (fun sc i y ln ast h X W py pos R h1 h2 h3 h4 => ?_)
    · obtain ⟨⟨el, tg, it, ifs, scope⟩, hx, h⟩ := obB_ok h
      obtain ⟨p, rfl⟩ := vComp_ok hx
      obtain ⟨q1, q2, q3, q4, q5, q6⟩ := compC_ok ihs ihc ihe h R
      exact sl_comp R.calm (by rw [R.n]; exact R.nd) q1 (ownC_map _) q2 q3 q4 q5 q6
    · obtain ⟨⟨el, tg, it, ifs, scope⟩, hx, h⟩ := obB_ok h
      obtain ⟨p, rfl⟩ := vComp_ok hx
      obtain ⟨z1, h⟩ := ba h
      obtain ⟨z2, h⟩ := ba h
      obtain ⟨q1, q2, q3, q4, q5, q6⟩ := compC_ok ihs ihc ihe h R
      obtain ⟨y1, y2⟩ := isLoc_ok h3
      have hl : X.env.scope.names.lookup y = some .local := by rw [R.sc]; exact y2
      have ln1 : p.line = ln := of_decide_eq_true z1
      refine (ps_setLc R.calm (by rw [R.n]; exact R.nd) (by rw [R.n]; exact y1) hl (sw_true h4 hl ?_ ?_) q1 q2 q3 q4 q5 q6).imp fun D σ H h => ?_
      · show (py.line == p.line) = true
        rw [h1, ln1]; simp
      · simpa using z2
      · show tLc _ _ _ _ _ σ H _
        rw [ownC_map]
        exact comp_rd h
  | seq a ih => exact CkOk.iter fun sc tg ast h X W R => si_seq (ih.e _ _ h X W R)
  | rng1 a ih =>
    exact CkOk.iter fun sc tg ast h X W R => by
      obtain ⟨⟨x, es⟩, hx, h⟩ := obB_ok h
      obtain ⟨p, q, rfl⟩ := vCall_ok hx
      obtain ⟨h1, h⟩ := ba h
      obtain ⟨h2, h⟩ := ba h
      obtain ⟨h3, h⟩ := ba h
      obtain ⟨e1, rfl, h⟩ := only1_ok h
      obtain ⟨h4, h5⟩ := ba h
      have ex : x = "range" := of_decide_eq_true h2
      subst ex
      exact si_rng1 (R.gl h1) (R.tab.free _ (of_decide_eq_true h3)) (ih.e _ _ h5 X W R) (star_cons h4)
  | rng2 a b iha ihb =>
    exact CkOk.iter fun sc tg ast h X W R => by
      obtain ⟨⟨x, es⟩, hx, h⟩ := obB_ok h
      obtain ⟨p, q, rfl⟩ := vCall_ok hx
      obtain ⟨h1, h⟩ := ba h
      obtain ⟨h2, h⟩ := ba h
      obtain ⟨h3, h⟩ := ba h
      obtain ⟨e1, e2, rfl, h⟩ := only2_ok h
      obtain ⟨h4, h⟩ := ba h
      obtain ⟨h5, h⟩ := ba h
      obtain ⟨h6, h7⟩ := ba h
      have ex : x = "range" := of_decide_eq_true h2
      subst ex
      exact si_rng2 (R.gl h1) (R.tab.free _ (of_decide_eq_true h3)) (iha.e _ _ h6 X W R) (ihb.e _ _ h7 X W R) (by rw [star_cons h4, star_cons h5]; rfl) (star_cons h5)
  | enum a ih =>
    exact CkOk.iter fun sc tg ast h X W R => by
      obtain ⟨ts, ht, hh⟩ := obB_ok h
      obtain ⟨⟨x, es⟩, hx, h⟩ := obB_ok hh
      obtain ⟨kk, pt, rfl⟩ := vTup_ok ht
      obtain ⟨p, q, rfl⟩ := vCall_ok hx
      obtain ⟨h1, h⟩ := ba h
      obtain ⟨h2, h⟩ := ba h
      obtain ⟨h3, h⟩ := ba h
      obtain ⟨e1, rfl, h⟩ := only1_ok h
      obtain ⟨h4, h5⟩ := ba h
      have ex : x = "enumerate" := of_decide_eq_true h2
      subst ex
      exact si_enum (R.gl h1) (R.tab.free _ (of_decide_eq_true h3)) (ih.e _ _ h5 X W R) (star_cons h4)
  | glo => exact val_no
  | chain => exact val_no
  | new => exact val_no
  | meth => exact val_no
  | fld => exact val_no
end
end Mx
end

section
set_option maxRecDepth 100000
set_option maxHeartbeats 8000000
/-! Mx22: the checker of statements, sound. -/
namespace Mx
open PySem PySem.Spec PyProof.Rows L2 PySem.W PySem.HandSPX
def vAsg : Stmt → Option (Expr × Expr × Pos)
  | .Assign [t] v p => some (t, v, p)
  | _ => none
def vRet : Stmt → Option (Option Expr)
  | .Return v _ => some v
  | _ => none
def vIfS : Stmt → Option (Expr × List Stmt × List Stmt)
  | .If c a b _ => some (c, a, b)
  | _ => none
def vFor : Stmt → Option (Expr × Expr × List Stmt)
  | .For t i b [] _ => some (t, i, b)
  | _ => none
def vWhile : Stmt → Option (Expr × List Stmt)
  | .While c b [] _ => some (c, b)
  | _ => none
def vExpr : Stmt → Option Expr
  | .Expr e _ => some e
  | _ => none
/-- o.x(e) -/
def vMet1 : Expr → Option (Expr × Str × Expr × Bool)
  | .Call (.Attribute o x a) [e] [] c => some (o, x, e, a.endLine == c.line)
  | _ => none
def isBrk : Stmt → Bool
  | .Break _ => true
  | _ => false
def isCnt : Stmt → Bool
  | .Continue _ => true
  | _ => false
def isPass : Stmt → Bool
  | .Pass _ => true
  | .Expr (.Constant (.str _) _ _) _ => true
  | _ => false
theorem vAsg_ok {s : Stmt} {t v p} (h : vAsg s = some (t, v, p)) : s = .Assign [t] v p := by
  unfold vAsg at h; split at h <;> cases h; rfl
theorem vRet_ok {s : Stmt} {v} (h : vRet s = some v) : ∃ p, s = .Return v p := by
  unfold vRet at h; split at h <;> cases h; exact ⟨_, rfl⟩
theorem vIfS_ok {s : Stmt} {c a b} (h : vIfS s = some (c, a, b)) : ∃ p, s = .If c a b p := by
  unfold vIfS at h; split at h <;> cases h; exact ⟨_, rfl⟩
theorem vFor_ok {s : Stmt} {t i b} (h : vFor s = some (t, i, b)) : ∃ p, s = .For t i b [] p := by
  unfold vFor at h; split at h <;> cases h; exact ⟨_, rfl⟩
theorem vWhile_ok {s : Stmt} {c b} (h : vWhile s = some (c, b)) : ∃ p, s = .While c b [] p := by
  unfold vWhile at h; split at h <;> cases h; exact ⟨_, rfl⟩
theorem vExpr_ok {s : Stmt} {e} (h : vExpr s = some e) : ∃ p, s = .Expr e p := by
  unfold vExpr at h; split at h <;> cases h; exact ⟨_, rfl⟩
theorem vMet1_ok {s : Expr} {o x e l} (h : vMet1 s = some (o, x, e, l)) : ∃ a c, s = .Call (.Attribute o x a) [e] [] c ∧ l = (a.endLine == c.line) := by
  unfold vMet1 at h; split at h <;> cases h; exact ⟨_, _, rfl, rfl⟩
theorem isBrk_ok {s : Stmt} (h : isBrk s = true) : ∃ p, s = .Break p := by
  unfold isBrk at h; split at h <;> first | exact ⟨_, rfl⟩ | cases h
theorem isCnt_ok {s : Stmt} (h : isCnt s = true) : ∃ p, s = .Continue p := by
  unfold isCnt at h; split at h <;> first | exact ⟨_, rfl⟩ | cases h
theorem isPass_ok {s : Stmt} (h : isPass s = true) : (∃ p, s = .Pass p) ∨ ∃ x j p q, s = .Expr (.Constant (.str x) j p) q := by
  unfold isPass at h; split at h
  · exact .inl ⟨_, rfl⟩
  · exact .inr ⟨_, _, _, _, rfl⟩
  · cases h
/-! ### stores that are swapped -/
theorem swapped_of {x y : Str} {qx qy pt pt2 : Pos} {kt k2 : Nat} {a b : Expr} {env : PySem.Env} (hk : env.scope.kind = .function) (hx : env.scope.names.lookup x = some .local) (hy : env.scope.names.lookup y = some .local) (hl : qy.line = qx.line) (hxy : x ≠ y)
    (ha : noStar a = true) (hb : noStar b = true) (hf : (foldedForSure 8 a && foldedForSure 8 b) = false) (hc : (constantsAlone 8 a && constantsAlone 8 b) = false) :
    swappedStores [.Tuple [.Name x qx, .Name y qy] kt pt] (.Tuple [a, b] k2 pt2) env = pure (some [x, y]) := by
  have kx : env.kindOf x = some .local := hx
  have ky : env.kindOf y = some .local := hy
  have bk : env.blockKind = .function := by unfold Env.blockKind; rw [hk]; rfl
  have ne : (List.eraseDupsBy.loop (fun x1 x2 => x1 == x2) [x, y] []).length = 2 := by
    have e : (y == x) = false := by simpa using Ne.symm hxy
    simp [List.eraseDupsBy.loop, e]
  have f1 : ¬ (foldedForSure 8 a = true ∧ foldedForSure 8 b = true) := fun z => by rw [z.1, z.2] at hf; cases hf
  have c1 : ¬ (constantsAlone 8 a = true ∧ constantsAlone 8 b = true) := fun z => by rw [z.1, z.2] at hc; cases hc
  unfold swappedStores
  simp [bk, kx, ky, hl, hxy, List.eraseDups, List.eraseDupsBy, Expr.pos]
  rw [if_neg ?_, if_pos ne, if_neg f1, if_neg c1]
  rintro (z | z)
  · cases a <;> first | (cases z; done) | cases ha
  · cases b <;> first | (cases z; done) | cases hb
def noTup : Expr → Bool
  | .Tuple _ _ _ => false
  | _ => true
theorem swapped_no {t v : Expr} {env : PySem.Env} (h : noTup v = true) : swappedStores [t] v env = pure none := by
  cases v <;> first | (cases h; done) | (cases t <;> rfl)
theorem swapped_sub {o i v : Expr} {p : Pos} {env : PySem.Env} : swappedStores [.Subscript o i p] v env = pure none := by
  cases v <;> rfl
end Mx
end

section
set_option maxRecDepth 100000
set_option maxHeartbeats 8000000
/-! Mx23: the checker of statements, sound (2). -/
namespace Mx
open PySem PySem.Spec PyProof.Rows L2 PySem.W PySem.HandSPX
theorem swapS_of {t e : Expr} {l : Nat} {env : PySem.Env} (h : noLc e = true) : swapsWithSole [t] e l env = pure false := swap_of h
theorem sub_of {o i : Expr} {p : Pos} {env : PySem.Env} (h : okIx i = true) : ∀ v, assign (.Subscript o i p) env v = (do
      let ov ← holding [v] (eval o env)
      let iv ← holding [v, ov] (eval i env)
      standAt p
      holding [v, ov, iv] (setItem ov iv v)
      release [v, ov, iv] []) := by
  cases i <;> first | (intro v; rfl) | cases h
structure Cs where
  one : Scope → Stmt → Bool
  many : Scope → List Stmt → Bool
def Cs.st (S : Scope → Stmt → Bool) : Cs := ⟨S, fun sc => only1 (S sc)⟩
def isFrz : Sx → Bool
  | .frz _ => true
  | _ => false
def isNon : Ex → Bool
  | .con .non => true
  | _ => false
section
variable (T : Tab) (N : List Str)
def chS : Sx → Cs
  | .skip => ⟨fun _ s => isPass s, fun _ l => l.isEmpty⟩
  | .seq a b => ⟨no1, fun sc l => head1 (fun s r => (chS a).one sc s && (chS b).many sc r) l || (isFrz a && (chS b).many sc l)⟩
  | .set i e => .st fun sc s => obB (vAsg s) fun z => obB (vName z.1) fun x => (isSto N sc i x && (noLc z.2.1 && (chk T N e).e sc z.2.1)) || (isLoc N sc i x && (decide (z.1.pos.line = z.2.2.line) && (chk T N e).lc sc i x z.2.2.line z.2.1))
  | .own i e => .st fun sc s => obB (vAsg s) fun z => obB (vName z.1) fun x => isLoc N sc i x && (decide (z.1.pos.line = z.2.2.line) && (chk T N e).lc sc i x z.2.2.line z.2.1)
  | .par i j a b => .st fun sc s => obB (vAsg s) fun z => obB (vTup z.1) fun ts => obB (vTup z.2.1) fun vs => only2 (fun t u => only2 (fun v w => obB (vName t) fun x => obB (vName u) fun y =>
      isLoc N sc i x && (isLoc N sc j y && (decide (i ≠ j) && (decide (x ≠ y) && (decide (u.pos.line = t.pos.line) && (noStar v && (noStar w && (!(foldedForSure 8 v && foldedForSure 8 w) && (!(constantsAlone 8 v && constantsAlone 8 w) && ((chk T N a).e sc v && (chk T N b).e sc w)))))))))) vs) ts
  | .unp l e => .st fun sc s => obB (vAsg s) fun z => obB (vTup z.1) fun ts => namC (isSto N sc) l ts && (noTup z.2.1 && (noLc z.2.1 && (chk T N e).e sc z.2.1))
  | .ret e => .st fun sc s => obB (vRet s) fun v => match v with
    | some v => (chk T N e).e sc v
    | none => isNon e
  | .retO e => .st fun sc s => obB (vRet s) fun v => obB v fun v => (chk T N e).l sc v
  | .ifS t a b => .st fun sc s => obB (vIfS s) fun z => (chk T N t).t sc z.1 && ((chS a).many sc z.2.1 && (chS b).many sc z.2.2)
  | .forS t it b => .st fun sc s => obB (vFor s) fun z => tgC (isSto N sc) t z.1 && (noSet z.2.1 && ((chk T N it).i sc z.1 z.2.1 && (chS b).many sc z.2.2))
  | .whil t b => .st fun sc s => obB (vWhile s) fun z => (chk T N t).t sc z.1 && (chS b).many sc z.2
  | .brk => .st fun _ s => isBrk s
  | .cnt => .st fun _ s => isCnt s
  | .stIx o i e => .st fun sc s => obB (vAsg s) fun z => obB (vSub z.1) fun q => okIx q.2 && (noLc z.2.1 && ((chk T N e).e sc z.2.1 && ((chk T N o).e sc q.1 && (chk T N i).e sc q.2)))
  | .stV i k e => .st fun sc s => obB (vAsg s) fun z => obB (vSub z.1) fun q => okIx q.2 && (noLc z.2.1 && ((chk T N e).e sc z.2.1 && (obB (vName q.1) (isVis N sc i) && (chk T N k).e sc q.2)))
  | .app i e => .st fun sc s => obB (vExpr s) fun v => obB (vMet1 v) fun z => decide (z.2.1 = "append") && (z.2.2.2 && (noStar z.2.2.1 && (obB (vName z.1) (isVis N sc i) && (chk T N e).e sc z.2.2.1)))
  | .appO o e => .st fun sc s => obB (vExpr s) fun v => obB (vMet1 v) fun z => decide (z.2.1 = "append") && (z.2.2.2 && (noStar z.2.2.1 && (noBase z.1 && ((chk T N o).e sc z.1 && (chk T N e).e sc z.2.2.1))))
  | .drop e => .st fun sc s => obB (vExpr s) fun v => noLc v && (chk T N e).e sc v
  | .frz _ => .st no1
end
section
variable (T : Tab) (ca : Nat → Addr) (px : PrX) (k : Nat) (N : List Str)
structure XS (X : Cx) (W : WX) (sc : Scope) : Prop where
  toXR : XR T X ca W px k N sc
  po : PassesOwn (model X.prog X.w) X.A X.env X.xe
  kind : sc.kind = .function
  fn : ∀ x, X.fn x = true
structure CsOk (x : Sx) (c : Cs) : Prop where
  one : ∀ sc st, c.one sc st = true → ∀ X W, XS T ca px k N X W sc → PS X st (RS X ca W px x)
  many : ∀ sc l, c.many sc l = true → ∀ X W, XS T ca px k N X W sc → PSs X l (RS X ca W px x)
end
section
variable {T : Tab} {ca : Nat → Addr} {px : PrX} {k : Nat} {N : List Str} {x : Sx}
theorem CsOk.st {S : Scope → Stmt → Bool} (h : ∀ sc st, S sc st = true → ∀ X W, XS T ca px k N X W sc → PS X st (RS X ca W px x)) : CsOk T ca px k N x (Cs.st S) :=
  ⟨h, fun sc l q X W R => by obtain ⟨y, rfl, q⟩ := only1_ok q; exact pss_one (h sc y q X W R)⟩
theorem EnvR.frz1 {f : Fm} {B H : Hp} {ρ : List Sl} {σ : L2.St} {K : PySem.W.Frag} {i : Nat} {o : O} {l : Addr} {d : D} {u : HO} (h : EnvR K f B H ρ σ) (e1 : ρ[i]? = some (.own o)) (e2 : σ[i]? = some (some (V.ref l))) (hB : B l = none) (rd : Rp K f (upd B l u) d (.ref l)) :
    EnvR K f (upd B l u) H (ρ.set i (.val d)) σ := by
  have other : ∀ (j : Nat) (w : O), (ρ.set i (.val d))[j]? = some (.own w) → ρ[j]? = some (.own w) ∧ j ≠ i := fun j w q => by
    rw [getS] at q
    by_cases c : i = j ∧ j < ρ.length
    · rw [if_pos c] at q; cases q
    · rw [if_neg c] at q; exact ⟨q, fun z => c ⟨z.symm, (List.getElem?_eq_some_iff.mp q).1⟩⟩
  refine ⟨by rw [List.length_set]; exact h.len, fun j d' q => ?_, fun j w q => ?_, fun j k w z a q1 q2 => ?_⟩
  · rw [getS] at q
    by_cases c : i = j ∧ j < ρ.length
    · rw [if_pos c] at q; cases q
      exact ⟨.ref l, by rw [← c.1]; exact e2, rd⟩
    · rw [if_neg c] at q
      obtain ⟨v, q1, q2⟩ := h.val j d' q
      exact ⟨v, q1, q2.mono (.refl f) (.new hB)⟩
  · obtain ⟨q, ne⟩ := other j w q
    obtain ⟨a, q1, q2⟩ := h.own j w q
    have na : a ≠ l := fun z => ne (h.inj j i w o l q e1 (z ▸ q1) e2)
    refine ⟨a, q1, ?_⟩
    cases w with
    | lst ws => obtain ⟨y0, y1, vs, y2, y3⟩ := q2; exact ⟨by rw [upd_ne na]; exact y0, y1, vs, y2, y3.mono (.refl f) (.new hB)⟩
    | dic ws => obtain ⟨y0, y1, vs, y2, y3⟩ := q2; exact ⟨by rw [upd_ne na]; exact y0, y1, vs, y2, y3.mono (.refl f) (.new hB)⟩
    | dit ws => obtain ⟨y0, y1, vs, y2, y3⟩ := q2; exact ⟨by rw [upd_ne na]; exact y0, y1, vs, y2, y3.mono (.refl f) (.new hB)⟩
    | ins c fs => exact q2.elim
    | exc c fs => exact q2.elim
  · exact h.inj j k w z a (other j w q1).1 (other k z q2).1
theorem EnvR.frzG {f : Fm} {B H : Hp} {ρ : List Sl} {σ : L2.St} {K : PySem.W.Frag} {i : Nat} {o : O} {l : Addr} {d : D} {u : HO} (h : EnvR K f B H ρ σ) (e1 : ρ[i]? = some (.own o)) (e2 : σ[i]? = some (some (V.ref l))) : Gs f B H ρ σ f (upd B l u) H (ρ.set i (.val d)) σ := by
  have hB := (h.ow_there ⟨i, o, e1, e2⟩).1
  refine ⟨.refl f, .new hB, fun a w e n nw => ?_⟩
  have na : a ≠ l := fun z => nw (z ▸ ⟨i, o, e1, e2⟩)
  refine ⟨e, n, upd_ne na, fun ⟨j, z, q1, q2⟩ => ?_⟩
  rw [getS] at q1
  by_cases c : i = j ∧ j < ρ.length
  · rw [if_pos c] at q1; cases q1
  · rw [if_neg c] at q1; exact nw ⟨j, z, q1, q2⟩
theorem ow_no {ρ : List Sl} {σ : L2.St} {i : Nat} {a : Addr} (h : Ow (ρ.set i .no) σ a) : Ow ρ σ a := by
  obtain ⟨j, z, q1, q2⟩ := h
  rw [getS] at q1
  by_cases c : i = j ∧ j < ρ.length
  · rw [if_pos c] at q1; cases q1
  · rw [if_neg c] at q1; exact ⟨j, z, q1, q2⟩
theorem EnvR.no1 {f : Fm} {B H : Hp} {ρ : List Sl} {σ : L2.St} {K : PySem.W.Frag} {i : Nat} (h : EnvR K f B H ρ σ) : EnvR K f B H (ρ.set i .no) σ := by
  have other : ∀ (j : Nat) (w : Sl), w ≠ .no → (ρ.set i .no)[j]? = some w → ρ[j]? = some w := fun j w hw q => by
    rw [getS] at q
    by_cases c : i = j ∧ j < ρ.length
    · rw [if_pos c] at q; cases q; exact absurd rfl hw
    · rw [if_neg c] at q; exact q
  exact ⟨by rw [List.length_set]; exact h.len, fun j d q => h.val j d (other j _ (fun z => by cases z) q), fun j o q => h.own j o (other j _ (fun z => by cases z) q),
    fun j k o u a q1 q2 => h.inj j k o u a (other j _ (fun z => by cases z) q1) (other k _ (fun z => by cases z) q2)⟩
theorem frz_rd {X : Cx} {W : WX} {i : Nat} {s : Sx} {Dn : Ends} {σ : L2.St} {H : Hp} (h : RS X ca W px (.seq (.frz i) s) Dn σ H) : RS X ca W px s Dn σ H := by
  obtain ⟨ρ, S, f, B, a, p⟩ := h
  simp only [evS] at p
  cases e1 : ρ[i]? with
  | none => rw [e1] at p; exact p.elim
  | some z =>
    rw [e1] at p
    dsimp only at p
    have same : frzSl z = z → RS X ca W px s Dn σ H := fun e => by
      rw [e] at p
      have e2 : ρ.set i z = ρ := by
        obtain ⟨hl, e3⟩ := List.getElem?_eq_some_iff.mp e1
        rw [← e3]; exact List.set_getElem_self hl
      rw [e2] at p
      exact ⟨ρ, S, f, B, a, p⟩
    cases z with
    | no => exact same rfl
    | val d => exact same rfl
    | own o =>
      obtain ⟨l, e2, rc⟩ := a.en.own i o e1
      cases o with
      | lst ds =>
        obtain ⟨b0, f0, vs, h0, r0⟩ := rc
        refine ⟨_, S, f, upd B l (.lst vs), ⟨a.en.frz1 (d := .lst ds) e1 e2 b0 ?_, a.si.freezeNew h0 b0 f0 lst_exd⟩, p.gs (a.en.frzG e1 e2)⟩
        simp only [Rp]
        exact ⟨l, vs, rfl, upd_same, r0.mono (.refl f) (.new b0)⟩
      | dic ds =>
        obtain ⟨b0, f0, vs, h0, r0⟩ := rc
        refine ⟨_, S, f, upd B l (.dK vs), ⟨a.en.frz1 (d := .dic ds) e1 e2 b0 ?_, a.si.freezeNew h0 b0 f0 dK_exd⟩, p.gs (a.en.frzG e1 e2)⟩
        simp only [Rp]
        exact ⟨l, vs, rfl, upd_same, RpK.toF.mpr (r0.mono (.refl f) (.new b0))⟩
      | dit ds => exact ⟨_, S, f, B, ⟨a.en.no1, a.si⟩, p.gs ⟨.refl f, .refl B, fun x o e n w => ⟨e, n, rfl, fun z => w (ow_no z)⟩⟩⟩
      | ins c fs => exact rc.elim
      | exc c fs => exact rc.elim
/-- a comprehension's value, and a list's, is a list -/
theorem lc_eq {e : Ex} {sc : Scope} {i : Nat} {y : Str} {ln : Nat} {v : Expr} (h : (chk T N e).lc sc i y ln v = true) : ∀ ρ S, evE px ρ e S = (evL px ρ e S).bind fun ds S1 => .ok (.lst ds) S1 := by
  cases e <;> first
    | (cases h; done)
    | exact fun ρ S => evE_lst
    | exact fun ρ S => evE_comp
theorem chS_ok (x : Sx) : CsOk T ca px k N x (chS T N x) := by
  induction x with
  | skip =>
    refine ⟨fun sc st h X W R => ?_, fun sc l h X W R => ?_⟩
    · rcases isPass_ok h with ⟨p, rfl⟩ | ⟨y, j, p, q, rfl⟩
      · exact ps_pass.imp fun D σ H h => skip_rd h
      · exact ps_doc.imp fun D σ H h => skip_rd h
    · have h : l.isEmpty = true := h
      cases l with
      | nil => exact pss_nil.imp fun D σ H h => skip_rd h
      | cons _ _ => cases h
  | seq a b iha ihb =>
    refine ⟨fun _ _ h => (by cases h), fun sc l h X W R => ?_⟩
    rcases Bool.or_eq_true_iff.mp h with h | h
    · obtain ⟨s, r, rfl, hh⟩ := head1_ok h
      obtain ⟨h1, h2⟩ := ba hh
      exact (pss_cons (iha.one _ _ h1 X W R) (ihb.many _ _ h2 X W R)).imp fun D σ H h => seq_rd h
    · obtain ⟨h1, h2⟩ := ba h
      cases a <;> first | (cases h1; done) | exact (ihb.many _ _ h2 X W R).imp fun D σ H h => frz_rd h
  | set i e =>
    exact CsOk.st fun sc st h X W R => by
      replace h := obB_ok h
      obtain ⟨⟨t, v, p⟩, hx, h⟩ := h
      cases vAsg_ok hx
      replace h := obB_ok h
      obtain ⟨y, hy, h⟩ := h
      obtain ⟨p2, rfl⟩ := vName_ok hy
      have nd : X.N.Nodup := by rw [R.toXR.n]; exact R.toXR.nd
      rcases Bool.or_eq_true_iff.mp h with h | h
      · obtain ⟨h1, h⟩ := ba h
        obtain ⟨h2, h3⟩ := ba h
        obtain ⟨q1, q2, q3⟩ := sto_L R.toXR.n R.toXR.sc R.fn i y h1
        exact (ps_set nd q1 q2 ((chk_ok e).e _ _ h3 X W R.toXR) (swap_of h2) q3).imp fun D σ H h => set_rd h
      · obtain ⟨h1, h⟩ := ba h
        obtain ⟨h2, h3⟩ := ba h
        refine ((chk_ok e).lc _ _ _ _ _ h3 X W p2 p R.toXR (of_decide_eq_true h2) rfl h1 (by rw [R.toXR.sc]; exact R.kind)).imp fun D σ H h => ?_
        exact set_rdL (lc_eq h3) h
  | own i e =>
    exact CsOk.st fun sc st h X W R => by
      replace h := obB_ok h
      obtain ⟨⟨t, v, p⟩, hx, h⟩ := h
      cases vAsg_ok hx
      replace h := obB_ok h
      obtain ⟨y, hy, h⟩ := h
      obtain ⟨p2, rfl⟩ := vName_ok hy
      obtain ⟨h1, h⟩ := ba h
      obtain ⟨h2, h3⟩ := ba h
      exact ((chk_ok e).lc _ _ _ _ _ h3 X W p2 p R.toXR (of_decide_eq_true h2) rfl h1 (by rw [R.toXR.sc]; exact R.kind)).imp fun D σ H h => own_rd h
  | par i j a b =>
    exact CsOk.st fun sc st h X W R => by
      replace h := obB_ok h
      obtain ⟨⟨t, v, p⟩, hx, h⟩ := h
      cases vAsg_ok hx
      replace h := obB_ok h
      obtain ⟨ts, ht, h⟩ := h
      replace h := obB_ok h
      obtain ⟨vs, hv, h⟩ := h
      replace h := only2_ok h
      obtain ⟨t1, t2, rfl, h⟩ := h
      replace h := only2_ok h
      obtain ⟨v1, v2, rfl, h⟩ := h
      replace h := obB_ok h
      obtain ⟨y1, e1, h⟩ := h
      replace h := obB_ok h
      obtain ⟨y2, e2, h⟩ := h
      obtain ⟨kt, pt, rfl⟩ := vTup_ok ht
      obtain ⟨kv, pv, rfl⟩ := vTup_ok hv
      obtain ⟨p1, rfl⟩ := vName_ok e1
      obtain ⟨p2, rfl⟩ := vName_ok e2
      obtain ⟨h1, h⟩ := ba h
      obtain ⟨h2, h⟩ := ba h
      obtain ⟨h3, h⟩ := ba h
      obtain ⟨h4, h⟩ := ba h
      obtain ⟨h5, h⟩ := ba h
      obtain ⟨h6, h⟩ := ba h
      obtain ⟨h7, h⟩ := ba h
      obtain ⟨h8, h⟩ := ba h
      obtain ⟨h9, h⟩ := ba h
      obtain ⟨h10, h11⟩ := ba h
      obtain ⟨a1, a2⟩ := isLoc_ok h1
      obtain ⟨b1, b2⟩ := isLoc_ok h2
      have l1 : X.env.scope.names.lookup y1 = some .local := by rw [R.toXR.sc]; exact a2
      have l2 : X.env.scope.names.lookup y2 = some .local := by rw [R.toXR.sc]; exact b2
      have nt : ∀ b : Bool, (!b) = true → b = false := fun b h => by cases b <;> first | rfl | cases h
      refine (ps_par R.toXR.calm (by rw [R.toXR.n]; exact R.toXR.nd) (by rw [R.toXR.n]; exact a1) (by rw [R.toXR.n]; exact b1) (of_decide_eq_true h3) l1 l2
        (sa_cons ((chk_ok a).e _ _ h10 X W R.toXR) (sa_cons ((chk_ok b).e _ _ h11 X W R.toXR) sa_nil (star_cons h7)) (star_cons h6))
        (swapped_of (by rw [R.toXR.sc]; exact R.kind) l1 l2 (of_decide_eq_true h5) (of_decide_eq_true h4) h6 h7 (nt _ h8) (nt _ h9)) rfl).imp fun D σ H h => par_rd h
  | unp l e =>
    exact CsOk.st fun sc st h X W R => by
      replace h := obB_ok h
      obtain ⟨⟨t, v, p⟩, hx, h⟩ := h
      cases vAsg_ok hx
      replace h := obB_ok h
      obtain ⟨ts, ht, h⟩ := h
      obtain ⟨kt, pt, rfl⟩ := vTup_ok ht
      obtain ⟨h1, h⟩ := ba h
      obtain ⟨h2, h⟩ := ba h
      obtain ⟨h3, h4⟩ := ba h
      obtain ⟨p1, p2, p3⟩ := pg_names (by rw [R.toXR.n]; exact R.toXR.nd) (sto_L R.toXR.n R.toXR.sc R.fn) h1
      exact (ps_asg ((chk_ok e).e _ _ h4 X W R.toXR) (pg_tup R.toXR.calm p1 p2 p3) (swapS_of h3) (swapped_no h2) rfl).imp fun D σ H h => unp_rd h
  | ret e =>
    exact CsOk.st fun sc st h X W R => by
      replace h := obB_ok h
      obtain ⟨v, hx, h⟩ := h
      obtain ⟨p, rfl⟩ := vRet_ok hx
      cases v with
      | some v => exact (ps_ret ((chk_ok e).e _ _ h X W R.toXR)).imp fun D σ H h => ret_rd h
      | none =>
        have e1 : e = .con .non := by
          have h : isNon e = true := h
          unfold isNon at h; split at h <;> first | rfl | cases h
        subst e1
        refine ps_retN.imp fun D σ H h => ?_
        obtain ⟨ρ, S, f, B, a, z⟩ := ret_rd h
        simp only [evE_con] at z
        exact z f B H .non (.refl ..) a.si (Rp.x (by simp only [Rp]))
  | retO e =>
    exact CsOk.st fun sc st h X W R => by
      replace h := obB_ok h
      obtain ⟨v, hx, h⟩ := h
      obtain ⟨p, rfl⟩ := vRet_ok hx
      replace h := obB_ok h
      obtain ⟨v, rfl, h⟩ := h
      exact (ps_ret ((chk_ok e).l _ _ h X W R.toXR)).imp fun D σ H h => retO_rd h
  | ifS t a b iha ihb =>
    exact CsOk.st fun sc st h X W R => by
      replace h := obB_ok h
      obtain ⟨⟨c, l, r⟩, hx, h⟩ := h
      obtain ⟨p, rfl⟩ := vIfS_ok hx
      obtain ⟨h1, h⟩ := ba h
      obtain ⟨h2, h3⟩ := ba h
      exact (ps_if ((chk_ok t).t _ _ h1 X W R.toXR) (iha.many _ _ h2 X W R) (ihb.many _ _ h3 X W R)).imp fun D σ H h => if_rd h
  | forS t it b ihb =>
    exact CsOk.st fun sc st h X W R => by
      replace h := obB_ok h
      obtain ⟨⟨c, l, r⟩, hx, h⟩ := h
      obtain ⟨p, rfl⟩ := vFor_ok hx
      obtain ⟨h1, h⟩ := ba h
      obtain ⟨h2, h⟩ := ba h
      obtain ⟨h3, h4⟩ := ba h
      exact (ps_for R.po R.toXR.calm ((chk_ok it).i _ _ _ h3 X W R.toXR) (pg_tg (by rw [R.toXR.n]; exact R.toXR.nd) R.toXR.calm (sto_L R.toXR.n R.toXR.sc R.fn) h1) (ihb.many _ _ h4 X W R) (folded_of h2)).imp fun D σ H h => for_rd h
  | whil t b ihb =>
    exact CsOk.st fun sc st h X W R => by
      replace h := obB_ok h
      obtain ⟨⟨c, r⟩, hx, h⟩ := h
      obtain ⟨p, rfl⟩ := vWhile_ok hx
      obtain ⟨h1, h2⟩ := ba h
      exact (ps_while R.po ((chk_ok t).t _ _ h1 X W R.toXR) (ihb.many _ _ h2 X W R)).imp fun D σ H h => while_rd h
  | brk => exact CsOk.st fun sc st h X W R => by obtain ⟨p, rfl⟩ := isBrk_ok h; exact ps_break.imp fun D σ H h => brk_rd h
  | cnt => exact CsOk.st fun sc st h X W R => by obtain ⟨p, rfl⟩ := isCnt_ok h; exact ps_continue.imp fun D σ H h => cnt_rd h
  | stIx o i e =>
    exact CsOk.st fun sc st h X W R => by
      replace h := obB_ok h
      obtain ⟨⟨t, v, p⟩, hx, h⟩ := h
      cases vAsg_ok hx
      replace h := obB_ok h
      obtain ⟨⟨q1, q2⟩, hq, h⟩ := h
      obtain ⟨p2, rfl⟩ := vSub_ok hq
      obtain ⟨h0, h⟩ := ba h
      obtain ⟨h1, h⟩ := ba h
      obtain ⟨h2, h⟩ := ba h
      obtain ⟨h3, h4⟩ := ba h
      exact (ps_asg ((chk_ok e).e _ _ h2 X W R.toXR) (pg_sub ((chk_ok o).e _ _ h3 X W R.toXR) ((chk_ok i).e _ _ h4 X W R.toXR) set_list (sub_of h0)) (swapS_of h1) swapped_sub rfl).imp fun D σ H h => stIx_rd h
  | stV i k e =>
    exact CsOk.st fun sc st h X W R => by
      replace h := obB_ok h
      obtain ⟨⟨t, v, p⟩, hx, h⟩ := h
      cases vAsg_ok hx
      replace h := obB_ok h
      obtain ⟨⟨q1, q2⟩, hq, h⟩ := h
      obtain ⟨p2, rfl⟩ := vSub_ok hq
      obtain ⟨h0, h⟩ := ba h
      obtain ⟨h1, h⟩ := ba h
      obtain ⟨h2, h⟩ := ba h
      obtain ⟨h3, h4⟩ := ba h
      obtain ⟨y, hy, h3⟩ := obB_ok h3
      obtain ⟨p3, rfl⟩ := vName_ok hy
      obtain ⟨z1, z2, z3⟩ := isVis_ok h3
      exact (ps_asg ((chk_ok e).e _ _ h2 X W R.toXR) (pg_sub (pe_var (by rw [R.toXR.n]; exact z1) (by rw [R.toXR.sc]; exact z2) (okName_1 z3) (okName_2 z3)) ((chk_ok k).e _ _ h4 X W R.toXR) set_list (sub_of h0)) (swapS_of h1) swapped_sub rfl).imp fun D σ H h => stV_rd h
  | app i e =>
    exact CsOk.st fun sc st h X W R => by
      replace h := obB_ok h
      obtain ⟨v, hx, h⟩ := h
      obtain ⟨p, rfl⟩ := vExpr_ok hx
      replace h := obB_ok h
      obtain ⟨⟨o, m, a, l⟩, hm, h⟩ := h
      obtain ⟨ap, cp, rfl, el⟩ := vMet1_ok hm
      obtain ⟨h1, h⟩ := ba h
      obtain ⟨h2, h⟩ := ba h
      obtain ⟨h3, h⟩ := ba h
      obtain ⟨h4, h5⟩ := ba h
      obtain ⟨y, hy, h4⟩ := obB_ok h4
      obtain ⟨p3, rfl⟩ := vName_ok hy
      obtain ⟨z1, z2, z3⟩ := isVis_ok h4
      have e1 : m = "append" := of_decide_eq_true h1
      subst e1
      have hl : (ap.endLine == cp.line) = true := by rw [← el]; exact h2
      refine (ps_expr (pe_bm PySem.F.plainAttrs_list PySem.F.slot_list_append PySem.F.type_list_append mt_append (pe_var (by rw [R.toXR.n]; exact z1) (by rw [R.toXR.sc]; exact z2) (okName_1 z3) (okName_2 z3)) (sa_cons ((chk_ok e).e _ _ h5 X W R.toXR) sa_nil (star_cons h3)) rfl ?_ hl (star_cons h3) rfl) rfl).imp fun D σ H h => app_rd h
      rw [star_cons h3]; rfl
  | appO o e =>
    exact CsOk.st fun sc st h X W R => by
      replace h := obB_ok h
      obtain ⟨v, hx, h⟩ := h
      obtain ⟨p, rfl⟩ := vExpr_ok hx
      replace h := obB_ok h
      obtain ⟨⟨o', m, a, l⟩, hm, h⟩ := h
      obtain ⟨ap, cp, rfl, el⟩ := vMet1_ok hm
      obtain ⟨h1, h⟩ := ba h
      obtain ⟨h2, h⟩ := ba h
      obtain ⟨h3, h⟩ := ba h
      obtain ⟨h4, h⟩ := ba h
      obtain ⟨h5, h6⟩ := ba h
      have e1 : m = "append" := of_decide_eq_true h1
      subst e1
      have hl : (ap.endLine == cp.line) = true := by rw [← el]; exact h2
      refine (ps_expr (pe_bm PySem.F.plainAttrs_list PySem.F.slot_list_append PySem.F.type_list_append mt_append ((chk_ok o).e _ _ h5 X W R.toXR) (sa_cons ((chk_ok e).e _ _ h6 X W R.toXR) sa_nil (star_cons h3)) (base_of h4) ?_ hl (star_cons h3) rfl) rfl).imp fun D σ H h => appO_rd h
      rw [star_cons h3]; rfl
  | drop e =>
    exact CsOk.st fun sc st h X W R => by
      replace h := obB_ok h
      obtain ⟨v, hx, h⟩ := h
      obtain ⟨p, rfl⟩ := vExpr_ok hx
      obtain ⟨h1, h2⟩ := ba h
      exact (ps_expr ((chk_ok e).e _ _ h2 X W R.toXR) (swap_of h1)).imp fun D σ H h => drop_rd h
  | frz i => exact CsOk.st fun _ _ h => by cases h
end
end Mx
end

section
set_option maxRecDepth 100000
set_option maxHeartbeats 8000000
/-! Mx24: defs, level by level. -/
namespace Mx
open PySem PySem.Spec PyProof.Rows L2 PySem.W PySem.HandSPX
structure Df where
  N : List Str
  np : Nat
  body : Sx
def outR : Out → Res D
  | .next _ S => .ok .non S
  | .ret d S => .ok d S
  | .exc c fs _ S => .exc c fs S
  | _ => .stuck
def env0 (d : Df) (ds : List D) : List Sl := ds.map .val ++ List.replicate (d.N.length - ds.length) .no
section
variable (isa : Nat → Ic → Option Bool) (exf : Nat → List Str) (defs : List Df)
def pxOf (call : Calls) : PrX := ⟨call, fun _ _ _ => .stuck, isa, exf⟩
noncomputable def callL : Nat → Calls
  | 0 => fun _ _ _ => .stuck
  | k + 1 => fun g ds S => match defs[g]? with
    | some d => if ds.length = d.np then outR (evS (pxOf isa exf (callL k)) d.body (env0 d ds) S) else .stuck
    | none => .stuck
end
section
variable {P : Program} {w : World} {K : PySem.W.Frag} {mg : Str → Option Value} {base : Heap} {ca : Nat → Addr}
theorem env_start {f : Fm} {B H : Hp} {d : Df} {ds : List D} {vs : List V} (r : RpA K f B ds vs) : EnvR K f B H (env0 d ds) (start d.N vs) := by
  have gv : ∀ (i : Nat) (z : Sl), (env0 d ds)[i]? = some z → (∃ e, z = .val e ∧ ds[i]? = some e) ∨ z = .no := fun i z h => by
    unfold env0 at h
    by_cases hi : i < ds.length
    · rw [List.getElem?_append_left (by simpa using hi), List.getElem?_map] at h
      cases e : ds[i]? with
      | none => rw [e] at h; cases h
      | some x => rw [e] at h; cases h; exact .inl ⟨x, rfl, rfl⟩
    · rw [List.getElem?_append_right (by simpa using Nat.le_of_not_lt hi), List.getElem?_replicate] at h
      split at h
      · cases h; exact .inr rfl
      · cases h
  refine ⟨?_, fun i e h => ?_, fun i o h => ?_, fun i j o u a h => ?_⟩
  · unfold env0 L2.start
    simp [r.len]
  · rcases gv i _ h with ⟨x, e1, e2⟩ | e1
    · cases e1
      obtain ⟨v, h1, h2⟩ := r.get e2
      refine ⟨v, ?_, h2⟩
      unfold L2.start
      have hi : i < vs.length := (List.getElem?_eq_some_iff.mp h1).1
      rw [List.getElem?_append_left (by simpa using hi), List.getElem?_map, h1]
      rfl
    · cases e1
  · rcases gv i _ h with ⟨x, e1, _⟩ | e1 <;> cases e1
  · rcases gv i _ h with ⟨x, e1, _⟩ | e1 <;> cases e1
theorem env0_noOw {d : Df} {ds : List D} {σ : L2.St} {a : Addr} : ¬ Ow (env0 d ds) σ a := by
  rintro ⟨i, o, h, _⟩
  unfold env0 at h
  rcases List.mem_append.mp (List.mem_of_getElem? h) with h | h
  · obtain ⟨x, _, e⟩ := List.mem_map.mp h; cases e
  · have := List.eq_of_mem_replicate h; cases this
theorem Gs.gw {f f' : Fm} {B B' H H' : Hp} {d : Df} {ds : List D} {σ σ' : L2.St} {ρ' : List Sl} (g : Gs f B H (env0 d ds) σ f' B' H' ρ' σ') : Gw f B H f' B' H' := ⟨g.fx, g.bx, fun a o e n => by
  obtain ⟨h1, h2, h3, _⟩ := g.fr a o e n env0_noOw
  exact ⟨h1, h2, h3⟩⟩
/-- the body's answer is the call's -/
theorem postS_of {f : Fm} {B H : Hp} {d : Df} {ds : List D} {σ : L2.St} {Q : VK} {E : XK} {o : Out} (p : PostC K ca f B H Q E (outR o)) : PostS K ca (fun c dd _ H' => E c dd H') { nx := fun _ H' => Q .non H', rt := Q } (env0 d ds) σ f B H o := by
  cases o with
  | next ρ' S' => exact fun f' B' H' σ' g a => p f' B' H' .non g.gw a.si (by simp only [Rp])
  | ret d' S' => exact fun f' B' H' v g s r => p f' B' H' v g.gw s r
  | exc c fs ρ' S' => exact fun f' B' H' dd σ' g en s x => p f' B' H' dd g.gw s x
  | brk ρ' S' => exact p.elim
  | cnt ρ' S' => exact p.elim
  | stuck => exact p.elim
/-- what is known of a def -/
structure DfR (T : Tab) (K : PySem.W.Frag) (f : Addr) (d : Df) : Prop where
  ex : ∃ x qual params body scope fd ps, FunD K x qual params body scope [] [] f fd ∧ Binds K fd ps [] ∧ FnScope d.N ps scope ∧ ps.length = d.np ∧ (chS T d.N d.body).many scope body = true
variable {T : Tab} {isa : Nat → Ic → Option Bool} {exf : Nat → List Str} {defs : List Df} {fa : Nat → Addr}
/-- the tables but for the defs -/
structure TabX (T : Tab) (P : Program) (w : World) (K : PySem.W.Frag) (mg : Str → Option Value) (base : Heap) (ca : Nat → Addr) (isa : Nat → Ic → Option Bool) (exf : Nat → List Str) : Prop where
  xcs : ∀ x c, T.xcs.lookup x = some c → mg x = some (.ref (ca c)) ∧ keepIn K (.ref (ca c)) = true ∧ MkF P w K mg base 2 (ca c) (exf c)
  xfs : ∀ c f, (c, f) ∈ T.xfs → XcI K (ca c) ∧ findIn K (.ref (ca c)) f = some none
  ics : ∀ x ic, T.ics.lookup x = some ic → match ic with
    | .ty n => mg x = none ∧ bootBuiltins x = some (.type n) ∧ x ≠ "__name__"
    | .cls c => mg x = some (.ref (ca c))
    | .two _ _ => False
  isa : ∀ k ic r, isa k ic = some r → XcI K (ca k) ∧ kitOne K (.ref (ca k)) (icV ca ic) = some r
  free : ∀ x, x ∈ T.free → mg x = none
theorem MkF.mono {C : Addr} {fs : List Str} {j k : Nat} (h : MkF P w K mg base j C fs) (l : j ≤ k) : MkF P w K mg base k C fs := by
  rcases h with h | ⟨h1, h2, T, fI, fd, ps, i, hj, h3⟩
  · exact .inl h
  · exact .inr ⟨h1, h2, T, fI, fd, ps, i, Nat.le_trans hj l, h3⟩
theorem defs_ok (tx : TabX T P w K mg base ca isa exf) (hd : ∀ g d, defs[g]? = some d → DfR T K (fa g) d)
    (ht : ∀ x g n, T.fns.lookup x = some (g, n) → mg x = some (.ref (fa g)) ∧ ∃ d, defs[g]? = some d ∧ d.np = n) :
    ∀ k g d, defs[g]? = some d → ∀ (x qual : Str) (params : Arguments) (body : List Stmt) (scope : Scope) (fd : FuncData) (ps : List Str), FunD K x qual params body scope [] [] (fa g) fd → FnScope d.N ps scope → ps.length = d.np → (chS T d.N d.body).many scope body = true →
      FnG P w K mg base (k + 2) (fa g) fd ps (spF K ca (callL isa exf defs k) g d.np)
  | 0, g, d, e => by
    intro x qual params body scope fd ps F S hl hc
    exact ⟨fun vs H Q E ⟨_, _, _, _, _, _, _, z⟩ => z.elim, fun A out s H args us vs Q E _ _ _ _ _ ⟨_, _, _, _, _, _, _, z⟩ => z.elim⟩
  | k + 1, g, d, e => by
    intro x qual params body scope fd ps F S hl hc
    have ih := defs_ok tx hd ht k
    refine fn_FD F S (fun vs H Q E ⟨ds, S0, f, B, r, _, h, _⟩ => by rw [r.len, h, hl]) fun cdv A outer s H vs Q E hr hg hsp => ?_
    obtain ⟨ds, S0, f, B, r, si, hn, p⟩ := hsp
    have tab : TabR T P w K mg base ca (pxOf isa exf (callL isa exf defs k)) (k + 2) := by
      refine ⟨fun y g' n hy => ?_, fun y c hy => ?_, tx.xfs, tx.ics, tx.isa, tx.free⟩
      · obtain ⟨h1, d', h2, h3⟩ := ht y g' n hy
        obtain ⟨x', qual', params', body', scope', fd', ps', F', hb', S', hl', hc'⟩ := (hd g' d' h2).ex
        have G := ih g' d' h2 _ _ _ _ _ _ _ F' S' hl' hc'
        rw [h3] at G
        exact ⟨_, fd', ps', k + 2, Nat.le_refl _, h1, F'.kp, hb', G⟩
      · obtain ⟨h1, h2, h3⟩ := tx.xcs y c hy
        exact ⟨h1, h2, h3.mono (by omega)⟩
    have xs : XS T ca (pxOf isa exf (callL isa exf defs k)) (k + 2) d.N (cxOf (L2.CX P w) P w K mg base d.N qual scope (fa g) cdv A outer s H E) (fun c dd _ H' => E c dd H') scope :=
      ⟨⟨rfl, S.nd, rfl, rfl, hg, hr, takes_of rfl rfl rfl rfl, tab⟩, passes_of rfl, S.kind, fun _ => rfl⟩
    refine ⟨_, (chS_ok d.body).many scope body hc _ _ xs, env0 d ds, S0, f, B, ⟨env_start r, si⟩, ?_⟩
    refine postS_of ?_
    unfold callL at p
    rw [e] at p
    dsimp only at p
    rw [if_pos hn] at p
    exact p
end
end Mx
end

section
set_option maxRecDepth 100000
set_option maxHeartbeats 8000000
/-! Mx25: the law's end: from the promise of the law's def to the row. -/
namespace Mx
open PySem PySem.Spec PyProof.Rows L2 PySem.W PySem.HandSPX
section
variable {P : Program} {w : World} {K : PySem.W.Frag} {mg mb : Str → Option Value} {k : Nat} {fa a : Addr} {fd : FuncData} {x : Str} {sp : Sp} {s₁ : Shared} {vs : List Value} {ns : List Int}
/-- what the law's run must end in -/
abbrev EndT (s₁ : Shared) : Result → Shared → Prop := fun r s' => r = .ok (.ret (.bool true)) ∧ OldK s₁.heap s'.heap ∧ s'.os = s₁.os ∧ AllBare s'.gens
/-- from a heap in which the script alone may be tracked -/
theorem law_from (H : Hp) (KX : K.In s₁.heap) (hns : s₁.heap.Ns mainGlobals mg) (hb : s₁.heap.Ns builtinsNs mb) (hbb : ∀ x : Str, x ≠ "__name__" → mb x = bootBuiltins x) (hlim : s₁.heap.NoLimit) (hg : s₁.gens = #[])
    (ha : s₁.heap.get? a = some { cls := .type "list", data := .seq vs.toArray }) (hr : Room k callerA) (F : ∀ base : Heap, K.In base → base.Ns mainGlobals mg → FnG P w K mg base k fa fd [x] sp)
    (hbind : ∀ (s : Shared) (u : Value), BindsTo s fd ⟨[u], []⟩ [(x, u)]) (hsp : sp [.ref a] H (fun v _ => v = .bl true) fun _ _ _ => False)
    (hO : Only H) (hok : HOk P w H s₁.heap) (hA : ∀ b, H b ≠ none → b = a) (hK : H a ≠ none → K.lookup a = none) : codeAny (model P w) callerA (.call (.ref fa) ⟨[.ref a], []⟩) (EndT s₁) s₁ := by
  have none_of : ∀ {b : Addr}, b ≠ a → H b = none := fun {b} hb => Classical.byContradiction fun z => hb (hA b z)
  have dict_none : ∀ {b : Addr} {o : Obj} {es : Array DictEntry} {ep : Nat}, s₁.heap.get? b = some o → o.data = .dict es ep → H b = none := fun {b o es ep} e d => by
    refine none_of fun z => ?_
    rw [z, ha] at e
    cases e
    cases d
  have ns_up : ∀ {b : Addr} {m : Str → Option Value}, s₁.heap.Ns b m → (hidT s₁.heap H).Ns b m := fun {b m} h => by
    obtain ⟨o, es, ep, e, d, r⟩ := h
    exact ⟨o, es, ep, hidT_get e (dict_none e d), d, r⟩
  have kb : K.In (hidT s₁.heap H) := fun b o e => by
    refine hidT_get (KX b o e) (Classical.byContradiction fun z => ?_)
    have eb := hA b z
    rw [eb] at e z
    rw [hK z] at e
    cases e
  have hM : Mod K mg (hidT s₁.heap H) := by
    obtain ⟨mc, l1, l2⟩ := hlim
    exact ⟨kb, ns_up hns, ⟨mb, ns_up hb, hbb⟩, ⟨mc, ns_up l1, l2⟩⟩
  have e0 : Env0 P w K mg (hidT s₁.heap H) callerA [] s₁ H := by
    refine ⟨rfl, hM, fun b o e => of_hidT e, ?_, trivial, fun b hb => ?_, hok, .of_eq hg⟩
    · rw [hidT_size]; exact Nat.le_refl _
    · cases (show b ∈ ([] : List Addr) from hb)
  have run := (F _ kb (ns_up hns)).go callerA [] s₁ H ⟨[.ref a], []⟩ [.ref a] [.ref a] _ _ hr rfl e0 (hbind s₁ (.ref a)) (.cons rfl .nil) hsp
  refine codeAny_mono run fun r s' h => ?_
  match r, h with
  | .error e, h =>
    obtain ⟨_, _, _, _, _, _, _, _, _, _, _, _, no⟩ := h
    exact no.elim
  | .ok .next, h => exact h.elim
  | .ok .brk, h => exact h.elim
  | .ok .cont, h => exact h.elim
  | .ok (.ret u), h =>
    obtain ⟨v, H', os, bare, un, hok', r', q⟩ := h
    cases (show v = .bl true from q)
    cases (show u = Value.bool true from r')
    refine ⟨rfl, OldK.of_keep fun b o e => ?_, os, bare⟩
    rcases hO b with z | ⟨ob, xs, z⟩
    · exact un.keep b o e z (fun y => by cases (show b ∈ ([] : List Addr) from y)) (by simp)
    · have e1 := (hok b _ z).1
      have e2 := (hok' b _ (un.frzs b ob _ z)).1
      rw [e] at e1
      cases e1
      exact e2
theorem law_callG (KX : K.In s₁.heap) (hns : s₁.heap.Ns mainGlobals mg) (hb : s₁.heap.Ns builtinsNs mb) (hbb : ∀ x : Str, x ≠ "__name__" → mb x = bootBuiltins x) (hlim : s₁.heap.NoLimit) (hg : s₁.gens = #[])
    (ha : s₁.heap.get? a = some { cls := .type "list", data := .seq vs.toArray }) (hi : IntsAre vs ns) (hl : ns.length ≤ sizeLine) (hr : Room k callerA) (F : ∀ base : Heap, K.In base → base.Ns mainGlobals mg → FnG P w K mg base k fa fd [x] sp)
    (hbind : ∀ (s : Shared) (u : Value), BindsTo s fd ⟨[u], []⟩ [(x, u)]) (hsp : ∀ H : Hp, Only H → SqL K H a (ns.map V.int) → sp [.ref a] H (fun v _ => v = .bl true) fun _ _ _ => False) : codeAny (model P w) callerA (.call (.ref fa) ⟨[.ref a], []⟩) (EndT s₁) s₁ := by
  have rv := vals_ints hi
  have lv : vs.length = ns.length := by have := hi.length; omega
  have lm : (ns.map V.int).length ≤ sizeLine := by simpa using hl
  cases hk : K.lookup a with
  | some o =>
    have e := KX a o hk
    rw [ha] at e
    cases e
    have hS : SqL K (fun _ => none) a (ns.map V.int) := .inr ⟨_, vs.toArray, _, hk, rfl, rfl, rfl, (by rw [List.size_toArray, lv]; exact hl), (by simpa using rv)⟩
    have hO : Only (fun _ => none) := fun _ => .inl rfl
    exact law_from (fun _ => none) KX hns hb hbb hlim hg ha hr F hbind (hsp _ hO hS) hO (fun b u z => by cases (show (none : Option HO) = some u from z)) (fun b z => absurd rfl z) (fun z => absurd rfl z)
  | none =>
    have only : ∀ b u, upd (fun _ => none) a (.frz { cls := .type "list", data := .seq vs.toArray } (.lst (ns.map V.int))) b = some u → b = a ∧ u = .frz { cls := .type "list", data := .seq vs.toArray } (.lst (ns.map V.int)) := fun b u z => by
      by_cases h : b = a
      · rw [h, upd_same] at z; cases z; exact ⟨h, rfl⟩
      · rw [upd_ne h] at z; cases z
    have hO : Only (upd (fun _ => none) a (.frz { cls := .type "list", data := .seq vs.toArray } (.lst (ns.map V.int)))) := fun b => by
      cases e : upd (fun _ => none) a (.frz { cls := .type "list", data := .seq vs.toArray } (.lst (ns.map V.int))) b with
      | none => exact .inl rfl
      | some u => exact .inr ⟨_, _, congrArg some (only b u e).2⟩
    have hS : SqL K (upd (fun _ => none) a (.frz { cls := .type "list", data := .seq vs.toArray } (.lst (ns.map V.int)))) a (ns.map V.int) := .inl (.inr ⟨_, upd_same⟩)
    refine law_from _ KX hns hb hbb hlim hg ha hr F hbind (hsp _ hO hS) hO (fun b u z => ?_) (fun b z => ?_) fun _ => hk
    · obtain ⟨e1, e2⟩ := only b u z
      rw [e1, e2]
      exact ⟨ha, lm, vs, _, rv, ha⟩
    · cases e : upd (fun _ => none) a (.frz { cls := .type "list", data := .seq vs.toArray } (.lst (ns.map V.int))) b with
      | none => exact absurd e z
      | some u => exact (only b u e).1
theorem walk_G {l : PySem.W.OpenLaw} {n k : Nat} {q : Program} {loose : List Str} {XP : (Str → Option Value) → Heap → Prop} {YP : World → Heap → Prop} {d : DefRec} {x : Str} (hn : l.most = some n) (hn2 : n ≤ sizeLine) (hdf : d.params.defaults = []) (hr : Room k callerA)
    (F : ∀ (w : World) (mg : Str → Option Value) (fa : Addr) (h : Heap), YP w h → h.Ns mainGlobals mg → mg d.name = some (.ref fa) → ∃ (K : PySem.W.Frag) (fd : FuncData) (sp : Sp), K.In h ∧ (∀ (s : Shared) (u : Value), BindsTo s fd ⟨[u], []⟩ [(x, u)]) ∧
      (∀ (H : Hp) (a : Addr) (ns : List Int), ns.length ≤ n → (∀ k ∈ ns, Builtin.Int.intBits k ≤ 1048576) → Only H → SqL K H a (ns.map V.int) → sp [.ref a] H (fun v _ => v = .bl true) fun _ _ _ => False) ∧ ∀ base : Heap, K.In base → base.Ns mainGlobals mg → FnG l.prog w K mg base k fa fd [x] sp) :
    PySem.W.WalkO q loose XP YP l.row.toRowW d [] (fun f vs => PySem.call f vs) := by
  refine Att.attach_callB hn hdf fun w s₀ s₁ mg mb fa o pm cd doc a vs ns G Y ho hd hcd hmg hobj hints hlen hbits hg => ?_
  obtain ⟨K, fd, sp, KX, hb, hsp, hF⟩ := F w mg fa _ Y G.T.g hmg
  exact law_callG KX G.T.g G.T.b G.T.builtins G.T.nolimit hg hobj hints (Nat.le_trans hlen hn2) hr hF hb fun H hO hS => hsp H a ns hlen hbits hO hS
end
end Mx
end

section
set_option maxRecDepth 100000
set_option maxHeartbeats 8000000
/-! Mx26: the facts that a head tells. -/
namespace Mx
open PySem PySem.Spec PyProof.Rows L2 PySem.W PySem.HandSPX He
/-! ### own exception classes -/
structure XSp where
  nm : Str
  fs : List Str
  base : Nat
def bmOf : Nat → List Value
  | 0 => [.type "ValueError", .type "Exception", .type "BaseException", .type "object"]
  | 1 => [.type "LookupError", .type "Exception", .type "BaseException", .type "object"]
  | _ => [.type "RuntimeError", .type "Exception", .type "BaseException", .type "object"]
def newOf : Nat → String
  | 0 => "ValueError.__new__"
  | 1 => "LookupError.__new__"
  | _ => "RuntimeError.__new__"
theorem base_ok (b : Nat) : ∃ B initId, ExcBaseFacts B (newOf b) initId (bmOf b) ∧ StoreFacts B (bmOf b) "object.__setattr__" "object" := by
  match b with
  | 0 => exact ⟨_, _, F.excBase_ValueError, F.store_ValueError⟩
  | 1 => exact ⟨_, _, F.excBase_LookupError, F.store_LookupError⟩
  | _ + 2 => exact ⟨_, _, F.excBase_RuntimeError, F.store_RuntimeError⟩
/-- the class at C as the model lays an own exception class -/
def clB (K : Frag) (C : Addr) (bmB : List Value) (newId : String) : Bool := match K.lookup C with
  | some ⟨.type t, _, .cls cd, sl⟩ => t == "type" && (match cd.mro, sl.toList with
    | .ref C' :: bm, [_, _, _, _, some (.builtin n), _] => C' == C && (n == newId && (!cd.hasDel && (cd.hasDict && excTail bmB bm)))
    | _, _ => false)
  | _ => false
theorem clB_ok {K : Frag} {C : Addr} {bmB : List Value} {newId : String} (q : clB K C bmB newId = true) :
    ∃ nm qn N bs bm sn sub ab col dd k0 k1 k2 k3 k5, K.lookup C = some (excClassObj nm qn C N bs bm true sn sub ab col dd k0 k1 k2 k3 k5 newId) ∧ excTail bmB bm = true := by
  unfold clB at q
  split at q
  · rename_i t dd cd sl ho
    have ht := (ba q).1
    replace q := (ba q).2
    have et : t = "type" := beq_iff_eq.mp ht
    clear ht
    subst et
    split at q
    · rename_i C' bm k0 k1 k2 k3 n k5 hm hs
      obtain ⟨q1, q⟩ := ba q
      obtain ⟨q2, q⟩ := ba q
      obtain ⟨q3, q⟩ := ba q
      obtain ⟨q4, q5⟩ := ba q
      have e1 : C' = C := beq_iff_eq.mp q1
      have e2 : n = newId := beq_iff_eq.mp q2
      subst e1 e2
      obtain ⟨nm, bs, mro, ns, qn, hd, sn, sb, ab, col, del⟩ := cd
      dsimp only at hm q3 q4
      subst hm
      have e3 : del = false := by cases del <;> first | rfl | cases q3
      subst e3
      have e4 : hd = true := q4
      subst e4
      obtain ⟨l⟩ := sl
      have e5 : l = [k0, k1, k2, k3, some (.builtin n), k5] := hs
      subst e5
      exact ⟨nm, qn, ns, bs, bm, sn, sb, ab, col, dd, k0, k1, k2, k3, k5, ho, q5⟩
    · cases q
  · cases q
def xiB (K : Frag) (C : Addr) : Bool :=
  eqO (findIn K (.ref C) "__getattribute__") (some (some (.builtin "BaseException.__getattribute__"))) && (eqO (findIn K (.ref C) "__getattr__") (some none) && (decide (subIn K (.ref C) (.type "BaseException") = some true) && (hasDictIn K C &&
  (eqO (findIn K (.ref C) "__class__") (some (some (.builtin "object.__class__"))) && (decide (specialIn K (.builtin "object.__class__") "__get__" = some (some (.builtin "getset_descriptor.__get__"))) && (decide (takesIn K (.builtin "object.__class__") = some true) && decide (mroIn K C (.type "object") = some true)))))))
theorem xiB_ok {K : Frag} {C : Addr} (h : xiB K C = true) : XcI K C := by
  obtain ⟨h1, h⟩ := ba h
  obtain ⟨h2, h⟩ := ba h
  obtain ⟨h3, h⟩ := ba h
  obtain ⟨h4, h⟩ := ba h
  obtain ⟨h5, h⟩ := ba h
  obtain ⟨h6, h⟩ := ba h
  obtain ⟨h7, h8⟩ := ba h
  exact ⟨eqO_ok h1, eqO_ok h2, of_decide_eq_true h3, h4, eqO_ok h5, of_decide_eq_true h6, of_decide_eq_true h7, of_decide_eq_true h8⟩
def xB (K : Frag) (x : XSp) : Bool :=
  let C := ga K x.nm
  xiB K C && (keepIn K (.ref C) && (x.fs.all (fun f => eqO (findIn K (.ref C) f) (some none)) && (if x.fs.isEmpty = true then excIn K C (bmOf x.base) (newOf x.base) else
    decide (x.fs.length ≤ 900) && (clB K C (bmOf x.base) (newOf x.base) && (eqO (findIn K (.ref C) "__setattr__") (some (some (.builtin "object.__setattr__"))) && (decide (typeIn K (.ref C) = some (.type "type")) &&
      (eqO (findIn K (.ref C) "__init__") (some (some (.ref (ma K C "__init__")))) && decide (typeIn K (.ref (ma K C "__init__")) = some (.type "function")))))))))
structure XOk (K : Frag) (x : XSp) : Prop where
  xi : XcI K (ga K x.nm)
  kp : keepIn K (.ref (ga K x.nm)) = true
  nf : ∀ f ∈ x.fs, findIn K (.ref (ga K x.nm)) f = some none
  no : x.fs = [] → excIn K (ga K x.nm) (bmOf x.base) (newOf x.base) = true
  own : x.fs ≠ [] → x.fs.length ≤ 900 ∧ XcK K (ga K x.nm) ∧ findIn K (.ref (ga K x.nm)) "__init__" = some (some (.ref (ma K (ga K x.nm) "__init__"))) ∧ typeIn K (.ref (ma K (ga K x.nm) "__init__")) = some (.type "function")
theorem xB_ok {K : Frag} {x : XSp} (h : xB K x = true) : XOk K x := by
  unfold xB at h
  dsimp only at h
  obtain ⟨h1, h⟩ := ba h
  obtain ⟨h2, h⟩ := ba h
  obtain ⟨h3, h⟩ := ba h
  refine ⟨xiB_ok h1, h2, fun f hf => eqO_ok (List.all_eq_true.mp h3 f hf), fun e => ?_, fun ne => ?_⟩
  · rw [if_pos (by rw [e]; rfl)] at h; exact h
  · have hne : ¬ x.fs.isEmpty = true := fun z => ne (List.isEmpty_iff.mp z)
    rw [if_neg hne] at h
    obtain ⟨h4, h⟩ := ba h
    obtain ⟨h5, h⟩ := ba h
    obtain ⟨h6, h⟩ := ba h
    obtain ⟨h7, h⟩ := ba h
    obtain ⟨h8, h9⟩ := ba h
    obtain ⟨nm, qn, N, bs, bm, sn, sub, ab, col, dd, k0, k1, k2, k3, k5, hl, ht⟩ := clB_ok h5
    obtain ⟨B, initId, FB, SF⟩ := base_ok x.base
    have xi := xiB_ok h1
    exact ⟨of_decide_eq_true h4, ⟨⟨B, _, initId, _, nm, qn, N, bs, bm, sn, sub, ab, col, dd, k0, k1, k2, k3, k5, FB, SF, hl, ht⟩, eqO_ok h6, xi.ga, xi.gt, xi.sub, of_decide_eq_true h7, h2⟩, eqO_ok h8, of_decide_eq_true h9⟩
/-- what isinstance answers -/
def isaB (K : Frag) (ca : Nat → Addr) (t : List (Nat × Ic × Bool)) : Bool := t.all fun z => xiB K (ca z.1) && decide (kitOne K (.ref (ca z.1)) (icV ca z.2.1) = some z.2.2)
def isaOf (t : List (Nat × Ic × Bool)) (k : Nat) (ic : Ic) : Option Bool := (t.find? fun z => decide (z.1 = k) && decide (z.2.1 = ic)).map (·.2.2)
theorem isaB_ok {K : Frag} {ca : Nat → Addr} {t : List (Nat × Ic × Bool)} (h : isaB K ca t = true) (k : Nat) (ic : Ic) (r : Bool) (e : isaOf t k ic = some r) : XcI K (ca k) ∧ kitOne K (.ref (ca k)) (icV ca ic) = some r := by
  unfold isaOf at e
  cases q : t.find? fun z => decide (z.1 = k) && decide (z.2.1 = ic) with
  | none => rw [q] at e; cases e
  | some z =>
    rw [q] at e
    cases e
    have hz := List.all_eq_true.mp h z (List.mem_of_find?_eq_some q)
    have hp := List.find?_some q
    obtain ⟨e1, e2⟩ := ba hp
    have e1 : z.1 = k := of_decide_eq_true e1
    have e2 : z.2.1 = ic := of_decide_eq_true e2
    obtain ⟨h1, h2⟩ := ba hz
    rw [← e1, ← e2]
    exact ⟨xiB_ok h1, of_decide_eq_true h2⟩
/-! ### the Hook -/
section
variable (n : Nat) (fa : List Fa) (fn : List DefD) (ex : Frag → Bool)
def obsM (g : Addr → Option Obj) : AlD × Bool := (obsD fa fn (frG g (asD g n)), ex (frG g (asD g n)))
def hookM : Hook where
  α := AlD × Bool
  obs := fun s => obsM n fa fn ex s.heap.get?
  val := fun _ => (valD fn, true)
  says := fun _ h => ∃ K : Frag, K.In h ∧ SaysD fa fn K ∧ ex K = true
  of := fun _ _ e => ⟨_, frG_in, congrArg (fun z : AlD × Bool => z.1) e, congrArg (fun z : AlD × Bool => z.2) e⟩
  keeps := fun _ _ _ ⟨K, hK, c⟩ k => ⟨K, Frag.In.keeps hK k, c⟩
end
theorem obsM_eq {n : Nat} {fa : List Fa} {fn : List DefD} {ex : Frag → Bool} {g : Addr → Option Obj} {s : Shared} (h : ∀ a, g a = s.heap.get? a) : obsM n fa fn ex g = (hookM n fa fn ex).obs s := by
  have e : g = s.heap.get? := funext h
  rw [e]; rfl
/-! ### the law's promise from the evaluator's answer -/
theorem law_sp {K : Frag} {ca : Nat → Addr} {call : Calls} {g : Nat} {ns : List Int} (h : ∃ S', call g [.frl (ns.map D.int)] [] = .ok (.bl true) S') (H : Hp) (a : Addr) (hS : SqL K H a (ns.map V.int)) : spF K ca call g 1 [.ref a] H (fun v _ => v = .bl true) fun _ _ _ => False := by
  obtain ⟨S', h⟩ := h
  have rI : ∀ ns : List Int, RpA K (fun _ => none) H (ns.map D.int) (ns.map V.int) := fun ns => by
    induction ns with
    | nil => simp [RpA]
    | cons i ns ih =>
      simp only [List.map_cons, RpA, Rp]
      exact ⟨.int i, _, rfl, rfl, ih⟩
  refine ⟨[.frl (ns.map D.int)], [], fun _ => none, H, RpA.one ?_, ⟨.refl H, fun _ _ e => (by cases e), fun _ _ e => (by cases e), fun _ _ e => (by cases e), fun _ _ _ _ _ e => (by cases e)⟩, rfl, ?_⟩
  · simp only [Rp]
    exact ⟨a, ns.map V.int, rfl, hS, rI ns⟩
  · rw [h]
    intro f' B' H' v g s r
    simpa only [Rp] using r
end Mx
end

section
set_option maxRecDepth 100000
set_option maxHeartbeats 4000000
/-! Mx27: the evaluator, step by step: one lemma a form, with the answers as equations. -/
namespace Mx
open PySem L2
section
variable {P : PrX} {ρ ρ1 ρ2 : List Sl} {S S1 S2 S3 S4 : Sto} {a b c e t l s : Ex} {d x y z : D} {ds es : List D} {i j n k : Nat} {o : Out}
theorem noExc_ok {α : Type} {a : α} {S : Sto} : noExc (Res.ok a S) = .ok a S := rfl
theorem call_eq {isa : Nat → Ic → Option Bool} {exf : Nat → List Str} {defs : List Df} {k g : Nat} {d : Df} {ds : List D} {S : Sto} (e : defs[g]? = some d) (h : ds.length = d.np) : callL isa exf defs (k + 1) g ds S = outR (evS (pxOf isa exf (callL isa exf defs k)) d.body (env0 d ds) S) := by
  have z : callL isa exf defs (k + 1) = fun g ds S => match defs[g]? with
    | some d => if ds.length = d.np then outR (evS (pxOf isa exf (callL isa exf defs k)) d.body (env0 d ds) S) else .stuck
    | none => .stuck := rfl
  rw [z]
  dsimp only
  rw [e]
  dsimp only
  rw [if_pos h]
theorem call_ok {isa : Nat → Ic → Option Bool} {exf : Nat → List Str} {defs : List Df} {k g : Nat} {d : Df} {ds : List D} {S S' : Sto} {r : D} (e : defs[g]? = some d) (h : ds.length = d.np) (q : evS (pxOf isa exf (callL isa exf defs k)) d.body (env0 d ds) S = .ret r S') : callL isa exf defs (k + 1) g ds S = .ok r S' := by
  rw [call_eq e h, q]; rfl
/-! ### values -/
theorem ev_var (h : ρ[i]? = some (.val d)) : evE P ρ (.var i) S = .ok d S := by rw [evE_var, h]
theorem ev_loc {u : O} (h : ρ[i]? = some (.own u)) : evE P ρ (.var i) S = .ok (.loc i) S := by rw [evE_var, h]
theorem ev_con : evE P ρ (.con d) S = .ok d S := evE_con
theorem ev_bin {w : Bo} (h1 : evE P ρ a S = .ok x S1) (h2 : evE P ρ b S1 = .ok y S2) (h3 : opB w (rs ρ x) (rs ρ y) S2 = .ok z S3) : evE P ρ (.bin w a b) S = .ok z S3 := by
  rw [evE_bin, h1, Res.bind_ok, h2, Res.bind_ok, h3]; rfl
theorem ev_cmp {w : Co} (h1 : evE P ρ a S = .ok x S1) (h2 : evE P ρ b S1 = .ok y S2) (h3 : opC w (rs ρ x) (rs ρ y) S2 = .ok z S3) : evE P ρ (.cmp w a b) S = .ok z S3 := by
  rw [evE_cmp, h1, Res.bind_ok, h2, Res.bind_ok, h3]; rfl
theorem ev_ix (h1 : evE P ρ a S = .ok x S1) (h2 : evE P ρ b S1 = .ok y S2) (h3 : opIx (rs ρ x) (rs ρ y) S2 = .ok z S3) : evE P ρ (.ix a b) S = .ok z S3 := by
  rw [evE_ix, h1, Res.bind_ok, h2, Res.bind_ok, h3]; rfl
theorem ev_neg {v : Int} (h1 : evE P ρ a S = .ok (.int v) S1) : evE P ρ (.neg a) S = .ok (.int (-v)) S1 := by rw [evE_neg, h1]; rfl
theorem ev_not {v : Bool} (h1 : evE P ρ a S = .ok (.bl v) S1) : evE P ρ (.notE a) S = .ok (.bl (!v)) S1 := by rw [evE_notE, h1]; rfl
theorem ev_itet (h1 : evE P ρ t S = .ok (.bl true) S1) (h2 : evE P ρ a S1 = .ok x S2) : evE P ρ (.ite t a b) S = .ok x S2 := by rw [evE_ite, h1, Res.bind_ok]; exact h2
theorem ev_itef (h1 : evE P ρ t S = .ok (.bl false) S1) (h2 : evE P ρ b S1 = .ok x S2) : evE P ρ (.ite t a b) S = .ok x S2 := by rw [evE_ite, h1, Res.bind_ok]; exact h2
/-- both ways of a test -/
theorem ev_ite {v : Bool} {x y : D} (h1 : evE P ρ t S = .ok (.bl v) S1) (h2 : evE P ρ a S1 = .ok x S1) (h3 : evE P ρ b S1 = .ok y S1) : evE P ρ (.ite t a b) S = .ok (if v = true then x else y) S1 := by
  rw [evE_ite, h1, Res.bind_ok]
  cases v with
  | true => exact h2
  | false => exact h3
theorem ea_nil : evA P ρ .nil S = .ok [] S := evA_nil
theorem ea_cons (h1 : evE P ρ a S = .ok x S1) (h2 : evA P ρ l S1 = .ok ds S2) : evA P ρ (.cons a l) S = .ok (x :: ds) S2 := by rw [evA_cons, h1, Res.bind_ok, h2]; rfl
theorem ev_tup (h1 : evA P ρ l S = .ok ds S1) (h2 : ds.length ≤ sizeLine ∧ ds.all plainD = true) : evE P ρ (.tup l) S = .ok (.tup ds) S1 := by rw [evE_tup, h1, Res.bind_ok, okIf_pos h2]
theorem el_lst (h1 : evA P ρ l S = .ok ds S1) (h2 : ds.length ≤ sizeLine ∧ ds.all plainD = true) : evL P ρ (.lst l) S = .ok ds S1 := by rw [evL_lst, h1, Res.bind_ok, okIf_pos h2]
theorem ev_lst (h1 : evA P ρ l S = .ok ds S1) (h2 : ds.length ≤ sizeLine ∧ ds.all plainD = true) : evE P ρ (.lst l) S = .ok (.lst ds) S1 := by rw [evE_lst, el_lst h1 h2]; rfl
theorem ev_call {g : Nat} (h1 : evA P ρ l S = .ok ds S1) (h2 : ds.all plainD = true) (h3 : P.call g ds S1 = .ok d S2) : evE P ρ (.call g l) S = .ok d S2 := by rw [evE_call, h1, Res.bind_ok, if_pos h2, h3]
theorem ev_mk {q : Nat} (h1 : evA P ρ l S = .ok ds S1) (h2 : ds.all plainD = true ∧ ds.length = (P.exf q).length) : evE P ρ (.mk q l) S = .ok (.obj S1.length) (S1 ++ [some (.exc q ((P.exf q).zip ds).reverse)]) := by rw [evE_mk, h1, Res.bind_ok, if_pos h2]
theorem ev_bi {w : Bi} (h1 : evA P ρ l S = .ok ds S1) (h2 : opBi w (ds.map (rs ρ)) S1 = .ok d S2) : evE P ρ (.bi w l) S = .ok d S2 := by rw [evE_bi, h1, Res.bind_ok, h2]; rfl
theorem ev_isi {ic : Ic} {q : Nat} {fs : List (Str × D)} {r : Bool} (h1 : evE P ρ a S = .ok (.obj n) S1) (h2 : S1[n]? = some (some (.exc q fs))) (h3 : P.isa q ic = some r) : evE P ρ (.isi a ic) S = .ok (.bl r) S1 := by
  rw [evE_isi, h1, Res.bind_ok]
  dsimp only
  rw [h2]
  dsimp only
  rw [h3]; rfl
theorem ev_xfl {q : Nat} {f : Str} (h1 : evE P ρ a S = .ok x S1) (h2 : opXfl q f (rs ρ x) S1 = .ok d S2) : evE P ρ (.xfl q a f) S = .ok d S2 := by rw [evE_xfl, h1, Res.bind_ok, h2]; rfl
theorem opXfl_ok {q : Nat} {f : Str} {fs : List (Str × D)} (h1 : S[n]? = some (some (.exc q fs))) (h2 : fs.lookup f = some d) : opXfl q f (.d (.obj n)) S = .ok d S := by
  simp only [opXfl, h1, h2, if_true]
theorem et_of {v : Bool} (h : evE P ρ a S = .ok (.bl v) S1) : evT P ρ a S = .ok v S1 := by unfold evT; rw [h]; rfl
/-! ### statements -/
theorem es_seq {u v : Sx} (h1 : evS P u ρ S = .next ρ1 S1) (h2 : evS P v ρ1 S1 = o) : evS P (.seq u v) ρ S = o := by simp only [evS]; rw [h1]; exact h2
theorem es_seqr {u v : Sx} (h1 : evS P u ρ S = .ret d S1) : evS P (.seq u v) ρ S = .ret d S1 := by simp only [evS]; rw [h1]
theorem es_skip : evS P .skip ρ S = .next ρ S := rfl
theorem es_set (h1 : evE P ρ e S = .ok d S1) (h2 : plainD d = true) : evS P (.set i e) ρ S = .next (ρ.set i (.val d)) S1 := by
  simp only [evS, h1, Res.then]; rw [if_pos h2]
theorem es_own (h1 : evL P ρ e S = .ok ds S1) : evS P (.own i e) ρ S = .next (ρ.set i (.own (.lst ds))) S1 := by simp only [evS, h1, Res.then]
theorem es_par (h1 : evA P ρ (.cons a (.cons b .nil)) S = .ok [x, y] S1) (h2 : plainD x = true ∧ plainD y = true) : evS P (.par i j a b) ρ S = .next ((ρ.set i (.val x)).set j (.val y)) S1 := by
  simp only [evS, h1, Res.then]; rw [if_pos h2]
theorem es_ret (h1 : evE P (ρ.map frzSl) e S = .ok d S1) : evS P (.ret e) ρ S = .ret d S1 := by simp only [evS, h1]
theorem es_retO (h1 : evL P ρ e S = .ok ds S1) : evS P (.retO e) ρ S = .ret (.obj S1.length) (S1 ++ [some (.lst ds)]) := by simp only [evS, h1, Res.then]
theorem es_ift {u v : Sx} (h1 : evT P ρ t S = .ok true S1) (h2 : evS P u ρ S1 = o) : evS P (.ifS t u v) ρ S = o := by simp only [evS, h1, Res.then]; rw [if_pos trivial]; exact h2
theorem es_iff {u v : Sx} (h1 : evT P ρ t S = .ok false S1) (h2 : evS P v ρ S1 = o) : evS P (.ifS t u v) ρ S = o := by simp only [evS, h1, Res.then]; rw [if_neg Bool.false_ne_true]; exact h2
theorem es_stIx {q r : Ex} {v : Int} {es : List D} (h1 : evE P ρ e S = .ok d S1) (h2 : evE P ρ q S1 = .ok (.obj n) S2) (h3 : evE P ρ r S2 = .ok (.int v) S3) (hp : plainD d = true) (h4 : S3[n]? = some (some (.lst ds))) (h5 : setL v d ds = some es) :
    evS P (.stIx q r e) ρ S = .next ρ (S3.set n (some (.lst es))) := by
  simp only [evS, h1, h2, h3, Res.then, hp, wrL, h4, h5, if_true]
/-- a for loop by an invariant of the turn -/
theorem forL_inv {still : Sto → Prop} {asg : D → List Sl → Option (List Sl)} {body : List Sl → Sto → Out} (I : Nat → List Sl → Sto → Prop) :
    ∀ (ds : List D) (m : Nat) (ρ : List Sl) (S : Sto), I m ρ S → (∀ i ρ S, I i ρ S → still S) →
      (∀ i d ρ S, ds[i]? = some d → I (m + i) ρ S → ∃ ρ1, asg d ρ = some ρ1 ∧ ∃ ρ2 S2, body ρ1 S = .next ρ2 S2 ∧ I (m + i + 1) ρ2 S2) → ∃ ρ' S', forL still asg body ds ρ S = .next ρ' S' ∧ I (m + ds.length) ρ' S'
  | [], m, ρ, S, h, hs, _ => ⟨ρ, S, by unfold forL; rw [if_pos (hs m ρ S h)], by simpa using h⟩
  | d :: ds, m, ρ, S, h, hs, hb => by
    obtain ⟨ρ1, e1, ρ2, S2, e2, h2⟩ := hb 0 d ρ S rfl (by simpa using h)
    have again : ∀ i d' ρ S, ds[i]? = some d' → I (m + 1 + i) ρ S → ∃ ρ1, asg d' ρ = some ρ1 ∧ ∃ ρ2 S2, body ρ1 S = .next ρ2 S2 ∧ I (m + 1 + i + 1) ρ2 S2 := fun i d' ρ S q h => by
      have e : m + (i + 1) = m + 1 + i := by omega
      have r := hb (i + 1) d' ρ S (by simpa using q)
      rw [e] at r
      exact r h
    obtain ⟨ρ', S', e3, h3⟩ := forL_inv I ds (m + 1) ρ2 S2 (by simpa using h2) hs again
    have e : m + 1 + ds.length = m + (ds.length + 1) := by omega
    rw [e] at h3
    refine ⟨ρ', S', ?_, h3⟩
    unfold forL
    rw [if_pos (hs m ρ S h), e1]
    dsimp only
    rw [e2]
    exact e3
theorem es_for {tg : Tg} {it : Ex} {u : Sx} {w : Itb} (h1 : evI P ρ it S = .ok w S1) (h2 : w.own = false) (h3 : forL w.Still (asgT tg) (evS P u) w.ds ρ S1 = .next ρ2 S2) : evS P (.forS tg it u) ρ S = .next ρ2 S2 := by
  simp only [evS, h1, Res.then]; rw [if_pos h2]; exact h3
theorem ei_rng1 {v : Int} (h1 : evE P ρ a S = .ok (.int v) S1) (h2 : -(2 ^ 62) ≤ v ∧ v < 2 ^ 62) : evI P ρ (.rng1 a) S = .ok ⟨intsD 0 v.toNat, none, false⟩ S1 := by
  rw [evI_rng1, h1, Res.bind_ok]
  exact okIf_pos h2
theorem opIx_obj {v : Int} (h : S[n]? = some (some (.lst ds))) (h2 : atI ds v = some d) : opIx (.d (.obj n)) (.d (.int v)) S = .ok d S := by
  simp only [opIx, seqRd, seqOv, h, h2]
theorem opIx_lst {v : Int} (h2 : atI ds v = some d) : opIx (.d (.lst ds)) (.d (.int v)) S = .ok d S := by simp only [opIx, seqRd, seqOv, h2]
theorem opIx_frl {v : Int} (h2 : atI ds v = some d) : opIx (.d (.frl ds)) (.d (.int v)) S = .ok d S := by simp only [opIx, seqRd, h2]
theorem opIx_tup {v : Int} (h2 : atI ds v = some d) : opIx (.d (.tup ds)) (.d (.int v)) S = .ok d S := by simp only [opIx, h2]
theorem atI_nat (h : k < ds.length) : atI ds (k : Int) = some ds[k] := by
  have h2 : (k : Int) < ds.length := by omega
  simp only [atI, ixN, Int.natCast_nonneg, if_true, h2, Option.bind_some, Int.toNat_natCast]
  exact List.getElem?_eq_getElem h
theorem get_set {u : Option O} (h : n < S.length) : (S.set n u)[n]? = some u := by simp [h]
theorem get_app {u : Option O} (h : n < S.length) : (S ++ [u])[n]? = S[n]? := by rw [List.getElem?_append_left h]
theorem get_new {u : Option O} : (S ++ [u])[S.length]? = some u := by simp
theorem ev_of_el {tg : Tg} {s c e : Ex} (h : evL P ρ (.comp tg s c e) S = .ok ds S1) (hp : True = True) : evE P ρ (.comp tg s c e) S = .ok (.lst ds) S1 := by rw [evE_comp, h]; rfl
/-! ### comprehensions -/
theorem compL_map {still : Sto → Prop} {turn : D → Sto → Res (Option D)} (f : D → D) : ∀ (ds acc : List D) (S : Sto), (∀ x ∈ ds, turn x S = .ok (some (f x)) S) → still S → acc.length + ds.length ≤ sizeLine → compL still turn ds acc S = .ok (acc ++ ds.map f) S
  | [], acc, S, _, hs, _ => by unfold compL; rw [if_pos hs]; simp
  | d :: ds, acc, S, h, hs, hl => by
    unfold compL
    rw [if_pos hs, h d List.mem_cons_self, Res.bind_ok]
    dsimp only
    have hl : acc.length + (ds.length + 1) ≤ sizeLine := by simpa using hl
    rw [if_pos (by omega), compL_map f ds (acc ++ [f d]) S (fun x hx => h x (List.mem_cons_of_mem _ hx)) hs (by simp; omega)]
    simp
theorem el_comp {tg : Tg} {w : Itb} (f : D → D) (h1 : evI P ρ s S = .ok w S1) (h2 : ∀ x ∈ w.ds, ∃ ρ1, asgT tg x (wipeS ρ tg.slots) = some ρ1 ∧ evE P ρ1 c S1 = .ok (.bl true) S1 ∧ evE P ρ1 e S1 = .ok (f x) S1 ∧ plainD (f x) = true) (h3 : w.Still S1) (h4 : w.ds.length ≤ sizeLine) :
    evL P ρ (.comp tg s c e) S = .ok (w.ds.map f) S1 := by
  rw [evL_comp, h1, Res.bind_ok]
  refine (compL_map f w.ds [] S1 (fun x hx => ?_) h3 (by simpa using h4)).trans (by simp)
  obtain ⟨ρ1, e1, e2, e3, e4⟩ := h2 x hx
  rw [e1]
  dsimp only
  rw [e2, Res.bind_ok]
  dsimp only
  rw [e3, Res.bind_ok, if_pos e4]
  rfl
/-! ### new exceptions behind a store -/
theorem ev_mkN {q N : Nat} {L L1 : Sto} (hN : S.length = N) (h1 : evA P ρ l (S ++ L) = .ok ds (S ++ L1)) (h2 : ds.all plainD = true ∧ ds.length = (P.exf q).length) : evE P ρ (.mk q l) (S ++ L) = .ok (.obj (N + L1.length)) (S ++ (L1 ++ [some (.exc q ((P.exf q).zip ds).reverse)])) := by
  rw [ev_mk h1 h2, List.length_append, hN, List.append_assoc]
theorem get_at {N i : Nat} {L : Sto} {u : Option O} (hN : S.length = N) (h : L[i]? = some u) : (S ++ L)[N + i]? = some u := by
  rw [← hN, List.getElem?_append_right (Nat.le_add_right _ _)]
  simpa using h
end
end Mx
end

section
set_option maxRecDepth 100000
set_option maxHeartbeats 8000000
namespace Kx
open PySem Mx L2
/-- _law_source: top 15 -/
def d0 : Df := ⟨["_law_script", "_law_at", "_law_cell", "_law_great"], 2,
  (.seq (.set 2 (.ite (.cmp .lt (.var 1) (.bi .len (.cons (.var 0) .nil))) (.ix (.var 0) (.var 1)) (.bin .add (.bin .mul (.con (.int 3)) (.var 1)) (.con (.int 1))))) (.seq (.set 3 (.bin .sub (.bi .abs (.cons (.var 2) .nil)) (.bin .pow (.con (.int 10)) (.con (.int 18))))) (.seq (.retO (.lst (.cons (.ite (.cmp .gt (.var 3) (.con (.int 0))) (.var 3) (.con (.int 0))) (.cons (.bin .add (.bin .add (.bin .mod (.bi .int (.cons (.var 2) .nil)) (.bin .add (.bin .pow (.con (.int 10)) (.con (.int 17))) (.con (.int 3)))) (.bin .mul (.con (.int 1000003)) (.var 1))) (.con (.int 17))) (.cons (.con (.int 0)) .nil))))) .skip)))⟩
/-- _law_draw: top 16 -/
def d1 : Df := ⟨["_law_source_here", "_law_many", "_law_mixed", "_law_part"], 2,
  (.seq (.ifS (.cmp .gt (.ix (.var 0) (.con (.int 0))) (.con (.int 0))) (.seq (.set 3 (.bin .mod (.bi .int (.cons (.ix (.var 0) (.con (.int 0))) .nil)) (.var 1))) (.seq (.stIx (.var 0) (.con (.int 0)) (.bin .fdiv (.ix (.var 0) (.con (.int 0))) (.var 1))) (.seq (.ret (.var 3)) .skip))) .skip) (.seq (.stIx (.var 0) (.con (.int 2)) (.bin .add (.ix (.var 0) (.con (.int 2))) (.con (.int 1)))) (.seq (.set 2 (.bin .mod (.bi .int (.cons (.bin .add (.ix (.var 0) (.con (.int 1))) (.bin .mul (.con (.int 7368787)) (.ix (.var 0) (.con (.int 2))))) .nil)) (.con (.int 2147483629)))) (.seq (.set 2 (.bin .mod (.bi .int (.cons (.bin .add (.bin .mul (.var 2) (.var 2)) (.bin .mul (.con (.int 48611)) (.ix (.var 0) (.con (.int 2))))) .nil)) (.con (.int 2147483587)))) (.seq (.set 2 (.bin .mod (.bi .int (.cons (.bin .add (.bin .add (.bin .mul (.var 2) (.con (.int 40503))) (.bin .mul (.bin .fdiv (.var 2) (.con (.int 65536))) (.con (.int 12289)))) (.ix (.var 0) (.con (.int 1)))) .nil)) (.con (.int 2147483549)))) (.seq (.ret (.bin .mod (.bi .int (.cons (.bin .fdiv (.var 2) (.con (.int 128))) .nil)) (.var 1))) .skip))))))⟩
/-- _law_pick: top 17 -/
def d2 : Df := ⟨["_law_source_here", "_law_things"], 2,
  (.seq (.ret (.ix (.var 1) (.call 1 (.cons (.var 0) (.cons (.bi .len (.cons (.var 1) .nil)) .nil))))) .skip)⟩
/-- _law_size: top 18 -/
def d3 : Df := ⟨["_law_script", "_law_most"], 2,
  (.seq (.ret (.bi .max2 (.cons (.con (.int 1)) (.cons (.bi .min2 (.cons (.var 1) (.cons (.bi .len (.cons (.var 0) .nil)) .nil))) .nil)))) .skip)⟩
/-- _law_thing: top 19 -/
def d4 : Df := ⟨["_law_source_here"], 1,
  (.seq (.ret (.call 2 (.cons (.var 0) (.cons (.lst (.cons (.call 1 (.cons (.var 0) (.cons (.bin .pow (.con (.int 10)) (.con (.int 30))) .nil))) (.cons (.con (.int 0)) (.cons (.neg (.con (.int 1))) (.cons (.con .non) (.cons (.con (.bl true)) (.cons (.con (.str "")) (.cons (.con (.str "line")) (.cons (.tup (.cons (.con (.int 1)) (.cons (.con (.str "a")) .nil))) (.cons (.lst .nil) (.cons (.lst (.cons (.con (.str "same")) .nil)) (.cons (.tup (.cons (.con .non) .nil)) .nil)))))))))))) .nil)))) .skip)⟩
/-- _law_classes: top 20 -/
def d5 : Df := ⟨["_law_e", "_law_found"], 1,
  (.seq (.set 1 (.lst (.cons (.isi (.var 0) (.cls 0)) (.cons (.isi (.var 0) (.cls 1)) (.cons (.isi (.var 0) (.cls 2)) (.cons (.isi (.var 0) (.cls 3)) .nil)))))) (.seq (.set 1 (.bin .add (.var 1) (.lst (.cons (.isi (.var 0) (.cls 4)) (.cons (.isi (.var 0) (.cls 5)) (.cons (.isi (.var 0) (.cls 6)) (.cons (.isi (.var 0) (.cls 7)) .nil))))))) (.seq (.ret (.bin .add (.var 1) (.lst (.cons (.isi (.var 0) (.cls 8)) (.cons (.isi (.var 0) (.cls 9)) (.cons (.isi (.var 0) (.cls 10)) (.cons (.isi (.var 0) (.cls 11)) .nil))))))) .skip)))⟩
/-- _law_bases: top 21 -/
def d6 : Df := ⟨["_law_e"], 1,
  (.seq (.ret (.lst (.cons (.isi (.var 0) (.cls 12)) (.cons (.isi (.var 0) (.ty "ValueError")) (.cons (.isi (.var 0) (.ty "LookupError")) (.cons (.isi (.var 0) (.ty "RuntimeError")) .nil)))))) .skip)⟩
/-- law: top 22 -/
def d7 : Df := ⟨["_law_script", "_law_at", "_law_source_here", "_law_made", "_law_told", "_law_k", "_law_one", "_law_other", "_law_due", "_law_j"], 1,
  (.seq (.forS (.name 1) (.rng1 (.call 3 (.cons (.var 0) (.cons (.con (.int 12)) .nil)))) (.seq (.set 2 (.call 0 (.cons (.var 0) (.cons (.var 1) .nil)))) (.seq (.par 6 7 (.call 4 (.cons (.var 2) .nil)) (.call 4 (.cons (.var 2) .nil))) (.seq (.set 3 (.lst (.cons (.mk 0 (.cons (.var 6) .nil)) (.cons (.mk 1 (.cons (.var 6) .nil)) (.cons (.mk 2 (.cons (.var 6) .nil)) (.cons (.mk 3 (.cons (.var 6) .nil)) (.cons (.mk 4 (.cons (.var 6) .nil)) (.cons (.mk 5 (.cons (.var 6) .nil)) (.cons (.mk 6 (.cons (.var 6) .nil)) .nil))))))))) (.seq (.set 3 (.bin .add (.var 3) (.lst (.cons (.mk 7 .nil) (.cons (.mk 8 (.cons (.var 6) .nil)) (.cons (.mk 9 (.cons (.var 6) .nil)) (.cons (.mk 10 (.cons (.var 6) .nil)) (.cons (.mk 11 (.cons (.var 6) (.cons (.var 7) .nil))) .nil)))))))) (.seq (.set 4 (.lst (.cons (.xfl 0 (.ix (.var 3) (.con (.int 0))) "line") (.cons (.xfl 1 (.ix (.var 3) (.con (.int 1))) "name") (.cons (.xfl 2 (.ix (.var 3) (.con (.int 2))) "request") (.cons (.xfl 3 (.ix (.var 3) (.con (.int 3))) "at") (.cons (.xfl 4 (.ix (.var 3) (.con (.int 4))) "at") (.cons (.xfl 5 (.ix (.var 3) (.con (.int 5))) "at") (.cons (.xfl 6 (.ix (.var 3) (.con (.int 6))) "demand") .nil))))))))) (.seq (.set 4 (.bin .add (.var 4) (.lst (.cons (.xfl 8 (.ix (.var 3) (.con (.int 8))) "what") (.cons (.xfl 9 (.ix (.var 3) (.con (.int 9))) "server") (.cons (.xfl 10 (.ix (.var 3) (.con (.int 10))) "number") (.cons (.xfl 11 (.ix (.var 3) (.con (.int 11))) "at") (.cons (.xfl 11 (.ix (.var 3) (.con (.int 11))) "word") .nil)))))))) (.seq (.ifS (.cmp .ne (.bi .repr (.cons (.var 4) .nil)) (.bi .repr (.cons (.bin .add (.bin .mul (.lst (.cons (.var 6) .nil)) (.con (.int 11))) (.lst (.cons (.var 7) .nil))) .nil))) (.seq (.ret (.con (.bl false))) .skip) .skip) (.seq (.forS (.name 5) (.rng1 (.con (.int 12))) (.seq (.ifS (.cmp .ne (.call 5 (.cons (.ix (.var 3) (.var 5)) .nil)) (.comp (.name 9) (.rng1 (.con (.int 12))) (.con (.bl true)) (.cmp .eq (.var 5) (.var 9)))) (.seq (.ret (.con (.bl false))) .skip) .skip) (.seq (.set 8 (.ite (.cmp .lt (.var 5) (.con (.int 9))) (.lst (.cons (.con (.bl true)) (.cons (.con (.bl true)) (.cons (.con (.bl false)) (.cons (.con (.bl false)) .nil))))) (.lst (.cons (.con (.bl false)) (.cons (.con (.bl false)) (.cons (.cmp .lt (.var 5) (.con (.int 11))) (.cons (.cmp .eq (.var 5) (.con (.int 11))) .nil))))))) (.seq (.ifS (.cmp .ne (.call 6 (.cons (.ix (.var 3) (.var 5)) .nil)) (.var 8)) (.seq (.ret (.con (.bl false))) .skip) .skip) .skip)))) .skip))))))))) (.seq (.ret (.con (.bl true))) .skip))⟩
def fns : List (Str × Nat × Nat) := [("_law_source", 0, 2), ("_law_draw", 1, 2), ("_law_pick", 2, 2), ("_law_size", 3, 2), ("_law_thing", 4, 1), ("_law_classes", 5, 1), ("_law_bases", 6, 1)]
def names : List Str := ["BadLine", "BadRelease", "BadRequest", "BadTurn", "OffPlan", "BadPlan", "BadDemand", "OtherService", "TooMany", "NoServer", "NoDialogue", "Refused", "MixedError"]
def exf : Nat → List Str
  | 0 => ["line"] | 1 => ["name"] | 2 => ["request"] | 3 => ["at"] | 4 => ["at"] | 5 => ["at"] | 6 => ["demand"] | 7 => [] | 8 => ["what"] | 9 => ["server"] | 10 => ["number"] | 11 => ["at", "word"]
  | _ => []
def T : Tab where
  fns := fns
  xcs := (names.take 12).zip (List.range 12)
  xfs := [(0, "line"), (1, "name"), (2, "request"), (3, "at"), (4, "at"), (5, "at"), (6, "demand"), (8, "what"), (9, "server"), (10, "number"), (11, "at"), (11, "word")]
  ics := names.zip ((List.range 13).map Ic.cls) ++ ([("ValueError", .ty "ValueError"), ("LookupError", .ty "LookupError"), ("RuntimeError", .ty "RuntimeError")] : List (Str × Ic))
  free := ["abs", "int", "isinstance", "len", "max", "min", "range", "repr", "ValueError", "LookupError", "RuntimeError"]
abbrev Pg : Program := PySem.Challenge.rw_mixedanswers_k96_errors_made.prog
def top (i : Nat) : Stmt := Pg.main.body.getD i (.Pass ⟨0, 0, 0, 0⟩)
theorem c0 : (chS T d0.N d0.body).many (L2.defScope (top 15)) (L2.defBody (top 15)) = true := by decide +kernel
theorem c1 : (chS T d1.N d1.body).many (L2.defScope (top 16)) (L2.defBody (top 16)) = true := by decide +kernel
theorem c2 : (chS T d2.N d2.body).many (L2.defScope (top 17)) (L2.defBody (top 17)) = true := by decide +kernel
theorem c3 : (chS T d3.N d3.body).many (L2.defScope (top 18)) (L2.defBody (top 18)) = true := by decide +kernel
theorem c4 : (chS T d4.N d4.body).many (L2.defScope (top 19)) (L2.defBody (top 19)) = true := by decide +kernel
theorem c5 : (chS T d5.N d5.body).many (L2.defScope (top 20)) (L2.defBody (top 20)) = true := by decide +kernel
theorem c6 : (chS T d6.N d6.body).many (L2.defScope (top 21)) (L2.defBody (top 21)) = true := by decide +kernel
theorem c7 : (chS T d7.N d7.body).many (L2.defScope (top 22)) (L2.defBody (top 22)) = true := by decide +kernel
end Kx
end

section
set_option maxRecDepth 100000
set_option maxHeartbeats 0
namespace Kx
open PySem PySem.Spec PyProof.Rows L2 PySem.W PySem.HandSPX He Mx

def e0 : DefD := ⟨("_law_source", none), "_law_source", "_law_source", defArgs (top 15), defBody (top 15), defScope (top 15), [], []⟩
def e1 : DefD := ⟨("_law_draw", none), "_law_draw", "_law_draw", defArgs (top 16), defBody (top 16), defScope (top 16), [], []⟩
def e2 : DefD := ⟨("_law_pick", none), "_law_pick", "_law_pick", defArgs (top 17), defBody (top 17), defScope (top 17), [], []⟩
def e3 : DefD := ⟨("_law_size", none), "_law_size", "_law_size", defArgs (top 18), defBody (top 18), defScope (top 18), [], []⟩
def e4 : DefD := ⟨("_law_thing", none), "_law_thing", "_law_thing", defArgs (top 19), defBody (top 19), defScope (top 19), [], []⟩
def e5 : DefD := ⟨("_law_classes", none), "_law_classes", "_law_classes", defArgs (top 20), defBody (top 20), defScope (top 20), [], []⟩
def e6 : DefD := ⟨("_law_bases", none), "_law_bases", "_law_bases", defArgs (top 21), defBody (top 21), defScope (top 21), [], []⟩
def e7 : DefD := ⟨("law", none), "law", "law", defArgs (top 22), defBody (top 22), defScope (top 22), [], []⟩
def i0 : DefD := ⟨("BadLine", some "__init__"), "__init__", "BadLine.__init__", defArgs (inClass (top 2) 0), defBody (inClass (top 2) 0), defScope (inClass (top 2) 0), [], []⟩
def i1 : DefD := ⟨("BadRelease", some "__init__"), "__init__", "BadRelease.__init__", defArgs (inClass (top 3) 0), defBody (inClass (top 3) 0), defScope (inClass (top 3) 0), [], []⟩
def i2 : DefD := ⟨("BadRequest", some "__init__"), "__init__", "BadRequest.__init__", defArgs (inClass (top 4) 0), defBody (inClass (top 4) 0), defScope (inClass (top 4) 0), [], []⟩
def i3 : DefD := ⟨("BadTurn", some "__init__"), "__init__", "BadTurn.__init__", defArgs (inClass (top 5) 0), defBody (inClass (top 5) 0), defScope (inClass (top 5) 0), [], []⟩
def i4 : DefD := ⟨("OffPlan", some "__init__"), "__init__", "OffPlan.__init__", defArgs (inClass (top 6) 0), defBody (inClass (top 6) 0), defScope (inClass (top 6) 0), [], []⟩
def i5 : DefD := ⟨("BadPlan", some "__init__"), "__init__", "BadPlan.__init__", defArgs (inClass (top 7) 0), defBody (inClass (top 7) 0), defScope (inClass (top 7) 0), [], []⟩
def i6 : DefD := ⟨("BadDemand", some "__init__"), "__init__", "BadDemand.__init__", defArgs (inClass (top 8) 0), defBody (inClass (top 8) 0), defScope (inClass (top 8) 0), [], []⟩
def i8 : DefD := ⟨("TooMany", some "__init__"), "__init__", "TooMany.__init__", defArgs (inClass (top 10) 0), defBody (inClass (top 10) 0), defScope (inClass (top 10) 0), [], []⟩
def i9 : DefD := ⟨("NoServer", some "__init__"), "__init__", "NoServer.__init__", defArgs (inClass (top 11) 0), defBody (inClass (top 11) 0), defScope (inClass (top 11) 0), [], []⟩
def i10 : DefD := ⟨("NoDialogue", some "__init__"), "__init__", "NoDialogue.__init__", defArgs (inClass (top 12) 0), defBody (inClass (top 12) 0), defScope (inClass (top 12) 0), [], []⟩
def i11 : DefD := ⟨("Refused", some "__init__"), "__init__", "Refused.__init__", defArgs (inClass (top 13) 0), defBody (inClass (top 13) 0), defScope (inClass (top 13) 0), [], []⟩
def fnD : List DefD := [e0, e1, e2, e3, e4, e5, e6, e7, i0, i1, i2, i3, i4, i5, i6, i8, i9, i10, i11]
def faD : List Fa := [.glo "_law_source", .glo "_law_draw", .glo "_law_pick", .glo "_law_size", .glo "_law_thing", .glo "_law_classes", .glo "_law_bases", .glo "law", .glo "BadLine", .glo "BadRelease", .glo "BadRequest", .glo "BadTurn", .glo "OffPlan", .glo "BadPlan", .glo "BadDemand", .glo "OtherService", .glo "TooMany", .glo "NoServer", .glo "NoDialogue", .glo "Refused", .glo "MixedError", .free "abs", .free "int", .free "isinstance", .free "len", .free "max", .free "min", .free "range", .free "repr", .free "ValueError", .free "LookupError", .free "RuntimeError"]
def x0 : XSp := ⟨"BadLine", ["line"], 0⟩
def x1 : XSp := ⟨"BadRelease", ["name"], 0⟩
def x2 : XSp := ⟨"BadRequest", ["request"], 0⟩
def x3 : XSp := ⟨"BadTurn", ["at"], 0⟩
def x4 : XSp := ⟨"OffPlan", ["at"], 0⟩
def x5 : XSp := ⟨"BadPlan", ["at"], 0⟩
def x6 : XSp := ⟨"BadDemand", ["demand"], 0⟩
def x7 : XSp := ⟨"OtherService", [], 0⟩
def x8 : XSp := ⟨"TooMany", ["what"], 0⟩
def x9 : XSp := ⟨"NoServer", ["server"], 1⟩
def x10 : XSp := ⟨"NoDialogue", ["number"], 1⟩
def x11 : XSp := ⟨"Refused", ["at", "word"], 2⟩
def xs : List XSp := [x0, x1, x2, x3, x4, x5, x6, x7, x8, x9, x10, x11]
def isa0 : List (Nat × Ic × Bool) := [(0, .cls 0, true), (0, .cls 1, false), (0, .cls 2, false), (0, .cls 3, false), (0, .cls 4, false), (0, .cls 5, false), (0, .cls 6, false), (0, .cls 7, false), (0, .cls 8, false), (0, .cls 9, false), (0, .cls 10, false), (0, .cls 11, false), (0, .cls 12, true), (0, .ty "ValueError", true), (0, .ty "LookupError", false), (0, .ty "RuntimeError", false)]
def isa1 : List (Nat × Ic × Bool) := [(1, .cls 0, false), (1, .cls 1, true), (1, .cls 2, false), (1, .cls 3, false), (1, .cls 4, false), (1, .cls 5, false), (1, .cls 6, false), (1, .cls 7, false), (1, .cls 8, false), (1, .cls 9, false), (1, .cls 10, false), (1, .cls 11, false), (1, .cls 12, true), (1, .ty "ValueError", true), (1, .ty "LookupError", false), (1, .ty "RuntimeError", false)]
def isa2 : List (Nat × Ic × Bool) := [(2, .cls 0, false), (2, .cls 1, false), (2, .cls 2, true), (2, .cls 3, false), (2, .cls 4, false), (2, .cls 5, false), (2, .cls 6, false), (2, .cls 7, false), (2, .cls 8, false), (2, .cls 9, false), (2, .cls 10, false), (2, .cls 11, false), (2, .cls 12, true), (2, .ty "ValueError", true), (2, .ty "LookupError", false), (2, .ty "RuntimeError", false)]
def isa3 : List (Nat × Ic × Bool) := [(3, .cls 0, false), (3, .cls 1, false), (3, .cls 2, false), (3, .cls 3, true), (3, .cls 4, false), (3, .cls 5, false), (3, .cls 6, false), (3, .cls 7, false), (3, .cls 8, false), (3, .cls 9, false), (3, .cls 10, false), (3, .cls 11, false), (3, .cls 12, true), (3, .ty "ValueError", true), (3, .ty "LookupError", false), (3, .ty "RuntimeError", false)]
def isa4 : List (Nat × Ic × Bool) := [(4, .cls 0, false), (4, .cls 1, false), (4, .cls 2, false), (4, .cls 3, false), (4, .cls 4, true), (4, .cls 5, false), (4, .cls 6, false), (4, .cls 7, false), (4, .cls 8, false), (4, .cls 9, false), (4, .cls 10, false), (4, .cls 11, false), (4, .cls 12, true), (4, .ty "ValueError", true), (4, .ty "LookupError", false), (4, .ty "RuntimeError", false)]
def isa5 : List (Nat × Ic × Bool) := [(5, .cls 0, false), (5, .cls 1, false), (5, .cls 2, false), (5, .cls 3, false), (5, .cls 4, false), (5, .cls 5, true), (5, .cls 6, false), (5, .cls 7, false), (5, .cls 8, false), (5, .cls 9, false), (5, .cls 10, false), (5, .cls 11, false), (5, .cls 12, true), (5, .ty "ValueError", true), (5, .ty "LookupError", false), (5, .ty "RuntimeError", false)]
def isa6 : List (Nat × Ic × Bool) := [(6, .cls 0, false), (6, .cls 1, false), (6, .cls 2, false), (6, .cls 3, false), (6, .cls 4, false), (6, .cls 5, false), (6, .cls 6, true), (6, .cls 7, false), (6, .cls 8, false), (6, .cls 9, false), (6, .cls 10, false), (6, .cls 11, false), (6, .cls 12, true), (6, .ty "ValueError", true), (6, .ty "LookupError", false), (6, .ty "RuntimeError", false)]
def isa7 : List (Nat × Ic × Bool) := [(7, .cls 0, false), (7, .cls 1, false), (7, .cls 2, false), (7, .cls 3, false), (7, .cls 4, false), (7, .cls 5, false), (7, .cls 6, false), (7, .cls 7, true), (7, .cls 8, false), (7, .cls 9, false), (7, .cls 10, false), (7, .cls 11, false), (7, .cls 12, true), (7, .ty "ValueError", true), (7, .ty "LookupError", false), (7, .ty "RuntimeError", false)]
def isa8 : List (Nat × Ic × Bool) := [(8, .cls 0, false), (8, .cls 1, false), (8, .cls 2, false), (8, .cls 3, false), (8, .cls 4, false), (8, .cls 5, false), (8, .cls 6, false), (8, .cls 7, false), (8, .cls 8, true), (8, .cls 9, false), (8, .cls 10, false), (8, .cls 11, false), (8, .cls 12, true), (8, .ty "ValueError", true), (8, .ty "LookupError", false), (8, .ty "RuntimeError", false)]
def isa9 : List (Nat × Ic × Bool) := [(9, .cls 0, false), (9, .cls 1, false), (9, .cls 2, false), (9, .cls 3, false), (9, .cls 4, false), (9, .cls 5, false), (9, .cls 6, false), (9, .cls 7, false), (9, .cls 8, false), (9, .cls 9, true), (9, .cls 10, false), (9, .cls 11, false), (9, .cls 12, false), (9, .ty "ValueError", false), (9, .ty "LookupError", true), (9, .ty "RuntimeError", false)]
def isa10 : List (Nat × Ic × Bool) := [(10, .cls 0, false), (10, .cls 1, false), (10, .cls 2, false), (10, .cls 3, false), (10, .cls 4, false), (10, .cls 5, false), (10, .cls 6, false), (10, .cls 7, false), (10, .cls 8, false), (10, .cls 9, false), (10, .cls 10, true), (10, .cls 11, false), (10, .cls 12, false), (10, .ty "ValueError", false), (10, .ty "LookupError", true), (10, .ty "RuntimeError", false)]
def isa11 : List (Nat × Ic × Bool) := [(11, .cls 0, false), (11, .cls 1, false), (11, .cls 2, false), (11, .cls 3, false), (11, .cls 4, false), (11, .cls 5, false), (11, .cls 6, false), (11, .cls 7, false), (11, .cls 8, false), (11, .cls 9, false), (11, .cls 10, false), (11, .cls 11, true), (11, .cls 12, false), (11, .ty "ValueError", false), (11, .ty "LookupError", false), (11, .ty "RuntimeError", true)]
def isaT : List (Nat × Ic × Bool) := isa0 ++ (isa1 ++ (isa2 ++ (isa3 ++ (isa4 ++ (isa5 ++ (isa6 ++ (isa7 ++ (isa8 ++ (isa9 ++ (isa10 ++ (isa11)))))))))))
def caK (K : Frag) (c : Nat) : Addr := ga K (names.getD c "")
def exK (K : Frag) : Bool := xs.all (xB K) && isaB K (caK K) isaT
abbrev Rk : OpenRow := OpenLaw.row PySem.Challenge.rw_mixedanswers_k96_errors_made
abbrev hk : Hook := hookM 4 faD fnD exK
def ob (s : SharedT) : AlD × Bool := obsM 4 faD fnD exK (HandSHeadRun.getT s)
theorem ob_eq (s : SharedT) : ob s = hk.obs s.abs := obsM_eq (HandSHeadRun.getT_eq s)
abbrev qv : Program := view Rk.prog [22]
def loose : List Str := ["MixedError", "BadLine", "BadRelease", "BadRequest", "BadTurn", "OffPlan", "BadPlan", "BadDemand", "OtherService", "TooMany", "NoServer", "NoDialogue", "Refused", "_law_source", "_law_draw", "_law_pick", "_law_size", "_law_thing", "_law_classes", "_law_bases"]

theorem run (w : World) : HandSHeadRun.RunEq Rk qv hk ob 4000 loose w := by
  intro os
  kernel_rfl
end Kx
end

section
set_option maxRecDepth 100000
set_option maxHeartbeats 0
namespace Kx
open PySem PySem.Spec PyProof.Rows L2 PySem.W PySem.HandSPX He Mx
def defs : List Df := [d0, d1, d2, d3, d4, d5, d6, d7]
def faK (K : Frag) (g : Nat) : Addr := ga K ((["_law_source", "_law_draw", "_law_pick", "_law_size", "_law_thing", "_law_classes", "_law_bases", "law"] : List Str).getD g "")
section
variable {P : Program} {w : World} {K : Frag} {base : Heap} {mg : Str → Option Value}
theorem facts_x (c : exK K = true) (x : XSp) (h : x ∈ xs) : XOk K x := xB_ok (List.all_eq_true.mp (Mx.ba c).1 x h)

theorem f0 (c : SaysD faD fnD K) : DfR T K (faK K 0) d0 := by
  obtain ⟨fd, F⟩ := c.def_ 0 (d := e0) rfl
  exact ⟨_, _, _, _, _, fd, ["_law_script", "_law_at"], F, F.bindsN (ps := ["_law_script", "_law_at"]) (fun _ _ _ _ _ _ us hl => match us, hl with | [_, _], _ => rfl), C8.fnScope_by (by decide +kernel), rfl, c0⟩
theorem f1 (c : SaysD faD fnD K) : DfR T K (faK K 1) d1 := by
  obtain ⟨fd, F⟩ := c.def_ 1 (d := e1) rfl
  exact ⟨_, _, _, _, _, fd, ["_law_source_here", "_law_many"], F, F.bindsN (ps := ["_law_source_here", "_law_many"]) (fun _ _ _ _ _ _ us hl => match us, hl with | [_, _], _ => rfl), C8.fnScope_by (by decide +kernel), rfl, c1⟩
theorem f2 (c : SaysD faD fnD K) : DfR T K (faK K 2) d2 := by
  obtain ⟨fd, F⟩ := c.def_ 2 (d := e2) rfl
  exact ⟨_, _, _, _, _, fd, ["_law_source_here", "_law_things"], F, F.bindsN (ps := ["_law_source_here", "_law_things"]) (fun _ _ _ _ _ _ us hl => match us, hl with | [_, _], _ => rfl), C8.fnScope_by (by decide +kernel), rfl, c2⟩
theorem f3 (c : SaysD faD fnD K) : DfR T K (faK K 3) d3 := by
  obtain ⟨fd, F⟩ := c.def_ 3 (d := e3) rfl
  exact ⟨_, _, _, _, _, fd, ["_law_script", "_law_most"], F, F.bindsN (ps := ["_law_script", "_law_most"]) (fun _ _ _ _ _ _ us hl => match us, hl with | [_, _], _ => rfl), C8.fnScope_by (by decide +kernel), rfl, c3⟩
theorem f4 (c : SaysD faD fnD K) : DfR T K (faK K 4) d4 := by
  obtain ⟨fd, F⟩ := c.def_ 4 (d := e4) rfl
  exact ⟨_, _, _, _, _, fd, ["_law_source_here"], F, F.bindsN (ps := ["_law_source_here"]) (fun _ _ _ _ _ _ us hl => match us, hl with | [_], _ => rfl), C8.fnScope_by (by decide +kernel), rfl, c4⟩
theorem f5 (c : SaysD faD fnD K) : DfR T K (faK K 5) d5 := by
  obtain ⟨fd, F⟩ := c.def_ 5 (d := e5) rfl
  exact ⟨_, _, _, _, _, fd, ["_law_e"], F, F.bindsN (ps := ["_law_e"]) (fun _ _ _ _ _ _ us hl => match us, hl with | [_], _ => rfl), C8.fnScope_by (by decide +kernel), rfl, c5⟩
theorem f6 (c : SaysD faD fnD K) : DfR T K (faK K 6) d6 := by
  obtain ⟨fd, F⟩ := c.def_ 6 (d := e6) rfl
  exact ⟨_, _, _, _, _, fd, ["_law_e"], F, F.bindsN (ps := ["_law_e"]) (fun _ _ _ _ _ _ us hl => match us, hl with | [_], _ => rfl), C8.fnScope_by (by decide +kernel), rfl, c6⟩
theorem f7 (c : SaysD faD fnD K) : DfR T K (faK K 7) d7 := by
  obtain ⟨fd, F⟩ := c.def_ 7 (d := e7) rfl
  exact ⟨_, _, _, _, _, fd, ["_law_script"], F, F.bindsN (ps := ["_law_script"]) (fun _ _ _ _ _ _ us hl => match us, hl with | [_], _ => rfl), C8.fnScope_by (by decide +kernel), rfl, c7⟩
theorem def_r (c : SaysD faD fnD K) : ∀ g d, defs[g]? = some d → DfR T K (faK K g) d := by
  intro g d e
  match g, e with
  | 0, e => cases e; exact f0 c
  | 1, e => cases e; exact f1 c
  | 2, e => cases e; exact f2 c
  | 3, e => cases e; exact f3 c
  | 4, e => cases e; exact f4 c
  | 5, e => cases e; exact f5 c
  | 6, e => cases e; exact f6 c
  | 7, e => cases e; exact f7 c
  | _ + 8, e => cases e
theorem m0 (s : SaysD faD fnD K) (c : exK K = true) : MkF P w K mg base 2 (caK K 0) ["line"] := by
  have X := facts_x c x0 (by simp [xs])
  obtain ⟨h1, T, h2, h3⟩ := X.own (by decide)
  obtain ⟨fd, F⟩ := s.def_ 8 (d := i0) rfl
  exact .inr ⟨by decide, by decide, T, _, fd, ["self", "line"], 1, Nat.le_refl _, h2, h3, init1 T F (C8.fnScope_by (by decide +kernel)) rfl rfl rfl (X.nf "line" (by decide)), F.bindsN (ps := ["self", "line"]) (fun _ _ _ _ _ _ us hl => match us, hl with | [_, _], _ => rfl)⟩
theorem m1 (s : SaysD faD fnD K) (c : exK K = true) : MkF P w K mg base 2 (caK K 1) ["name"] := by
  have X := facts_x c x1 (by simp [xs])
  obtain ⟨h1, T, h2, h3⟩ := X.own (by decide)
  obtain ⟨fd, F⟩ := s.def_ 9 (d := i1) rfl
  exact .inr ⟨by decide, by decide, T, _, fd, ["self", "name"], 1, Nat.le_refl _, h2, h3, init1 T F (C8.fnScope_by (by decide +kernel)) rfl rfl rfl (X.nf "name" (by decide)), F.bindsN (ps := ["self", "name"]) (fun _ _ _ _ _ _ us hl => match us, hl with | [_, _], _ => rfl)⟩
theorem m2 (s : SaysD faD fnD K) (c : exK K = true) : MkF P w K mg base 2 (caK K 2) ["request"] := by
  have X := facts_x c x2 (by simp [xs])
  obtain ⟨h1, T, h2, h3⟩ := X.own (by decide)
  obtain ⟨fd, F⟩ := s.def_ 10 (d := i2) rfl
  exact .inr ⟨by decide, by decide, T, _, fd, ["self", "request"], 1, Nat.le_refl _, h2, h3, init1 T F (C8.fnScope_by (by decide +kernel)) rfl rfl rfl (X.nf "request" (by decide)), F.bindsN (ps := ["self", "request"]) (fun _ _ _ _ _ _ us hl => match us, hl with | [_, _], _ => rfl)⟩
theorem m3 (s : SaysD faD fnD K) (c : exK K = true) : MkF P w K mg base 2 (caK K 3) ["at"] := by
  have X := facts_x c x3 (by simp [xs])
  obtain ⟨h1, T, h2, h3⟩ := X.own (by decide)
  obtain ⟨fd, F⟩ := s.def_ 11 (d := i3) rfl
  exact .inr ⟨by decide, by decide, T, _, fd, ["self", "at"], 1, Nat.le_refl _, h2, h3, init1 T F (C8.fnScope_by (by decide +kernel)) rfl rfl rfl (X.nf "at" (by decide)), F.bindsN (ps := ["self", "at"]) (fun _ _ _ _ _ _ us hl => match us, hl with | [_, _], _ => rfl)⟩
theorem m4 (s : SaysD faD fnD K) (c : exK K = true) : MkF P w K mg base 2 (caK K 4) ["at"] := by
  have X := facts_x c x4 (by simp [xs])
  obtain ⟨h1, T, h2, h3⟩ := X.own (by decide)
  obtain ⟨fd, F⟩ := s.def_ 12 (d := i4) rfl
  exact .inr ⟨by decide, by decide, T, _, fd, ["self", "at"], 1, Nat.le_refl _, h2, h3, init1 T F (C8.fnScope_by (by decide +kernel)) rfl rfl rfl (X.nf "at" (by decide)), F.bindsN (ps := ["self", "at"]) (fun _ _ _ _ _ _ us hl => match us, hl with | [_, _], _ => rfl)⟩
theorem m5 (s : SaysD faD fnD K) (c : exK K = true) : MkF P w K mg base 2 (caK K 5) ["at"] := by
  have X := facts_x c x5 (by simp [xs])
  obtain ⟨h1, T, h2, h3⟩ := X.own (by decide)
  obtain ⟨fd, F⟩ := s.def_ 13 (d := i5) rfl
  exact .inr ⟨by decide, by decide, T, _, fd, ["self", "at"], 1, Nat.le_refl _, h2, h3, init1 T F (C8.fnScope_by (by decide +kernel)) rfl rfl rfl (X.nf "at" (by decide)), F.bindsN (ps := ["self", "at"]) (fun _ _ _ _ _ _ us hl => match us, hl with | [_, _], _ => rfl)⟩
theorem m6 (s : SaysD faD fnD K) (c : exK K = true) : MkF P w K mg base 2 (caK K 6) ["demand"] := by
  have X := facts_x c x6 (by simp [xs])
  obtain ⟨h1, T, h2, h3⟩ := X.own (by decide)
  obtain ⟨fd, F⟩ := s.def_ 14 (d := i6) rfl
  exact .inr ⟨by decide, by decide, T, _, fd, ["self", "demand"], 1, Nat.le_refl _, h2, h3, init1 T F (C8.fnScope_by (by decide +kernel)) rfl rfl rfl (X.nf "demand" (by decide)), F.bindsN (ps := ["self", "demand"]) (fun _ _ _ _ _ _ us hl => match us, hl with | [_, _], _ => rfl)⟩
theorem m8 (s : SaysD faD fnD K) (c : exK K = true) : MkF P w K mg base 2 (caK K 8) ["what"] := by
  have X := facts_x c x8 (by simp [xs])
  obtain ⟨h1, T, h2, h3⟩ := X.own (by decide)
  obtain ⟨fd, F⟩ := s.def_ 15 (d := i8) rfl
  exact .inr ⟨by decide, by decide, T, _, fd, ["self", "what"], 1, Nat.le_refl _, h2, h3, init1 T F (C8.fnScope_by (by decide +kernel)) rfl rfl rfl (X.nf "what" (by decide)), F.bindsN (ps := ["self", "what"]) (fun _ _ _ _ _ _ us hl => match us, hl with | [_, _], _ => rfl)⟩
theorem m9 (s : SaysD faD fnD K) (c : exK K = true) : MkF P w K mg base 2 (caK K 9) ["server"] := by
  have X := facts_x c x9 (by simp [xs])
  obtain ⟨h1, T, h2, h3⟩ := X.own (by decide)
  obtain ⟨fd, F⟩ := s.def_ 16 (d := i9) rfl
  exact .inr ⟨by decide, by decide, T, _, fd, ["self", "server"], 1, Nat.le_refl _, h2, h3, init1 T F (C8.fnScope_by (by decide +kernel)) rfl rfl rfl (X.nf "server" (by decide)), F.bindsN (ps := ["self", "server"]) (fun _ _ _ _ _ _ us hl => match us, hl with | [_, _], _ => rfl)⟩
theorem m10 (s : SaysD faD fnD K) (c : exK K = true) : MkF P w K mg base 2 (caK K 10) ["number"] := by
  have X := facts_x c x10 (by simp [xs])
  obtain ⟨h1, T, h2, h3⟩ := X.own (by decide)
  obtain ⟨fd, F⟩ := s.def_ 17 (d := i10) rfl
  exact .inr ⟨by decide, by decide, T, _, fd, ["self", "number"], 1, Nat.le_refl _, h2, h3, init1 T F (C8.fnScope_by (by decide +kernel)) rfl rfl rfl (X.nf "number" (by decide)), F.bindsN (ps := ["self", "number"]) (fun _ _ _ _ _ _ us hl => match us, hl with | [_, _], _ => rfl)⟩
theorem m11 (s : SaysD faD fnD K) (c : exK K = true) : MkF P w K mg base 2 (caK K 11) ["at", "word"] := by
  have X := facts_x c x11 (by simp [xs])
  obtain ⟨h1, T, h2, h3⟩ := X.own (by decide)
  obtain ⟨fd, F⟩ := s.def_ 18 (d := i11) rfl
  exact .inr ⟨by decide, by decide, T, _, fd, ["self", "at", "word"], 1, Nat.le_refl _, h2, h3, init2 T F (C8.fnScope_by (by decide +kernel)) rfl rfl rfl rfl (X.nf "at" (by decide)) (X.nf "word" (by decide)), F.bindsN (ps := ["self", "at", "word"]) (fun _ _ _ _ _ _ us hl => match us, hl with | [_, _, _], _ => rfl)⟩
theorem m7 (s : SaysD faD fnD K) (c : exK K = true) : MkF P w K mg base 2 (caK K 7) [] := by
  have X := facts_x c x7 (by simp [xs])
  obtain ⟨B, i, FB, _⟩ := base_ok x7.base
  exact .inl ⟨rfl, B, _, i, _, FB, X.no rfl⟩
theorem tab_x {h : Heap} (X : K.In h) (G : h.Ns mainGlobals mg) (s : SaysD faD fnD K) (c : exK K = true) : TabX T P w K mg base (caK K) (isaOf isaT) exf where
  xcs := fun x k e => by
    have e : ((names.take 12).zip (List.range 12)).lookup x = some k := e
    have hm : (x, k) ∈ (names.take 12).zip (List.range 12) := PySem.mem_of_lookup e
    have hm : (x, k) ∈ [(("BadLine" : Str), 0), (("BadRelease" : Str), 1), (("BadRequest" : Str), 2), (("BadTurn" : Str), 3), (("OffPlan" : Str), 4), (("BadPlan" : Str), 5), (("BadDemand" : Str), 6), (("OtherService" : Str), 7), (("TooMany" : Str), 8), (("NoServer" : Str), 9), (("NoDialogue" : Str), 10), (("Refused" : Str), 11)] := hm
    simp only [List.mem_cons, List.not_mem_nil, or_false, Prod.mk.injEq] at hm
    rcases hm with ⟨rfl, rfl⟩ | ⟨rfl, rfl⟩ | ⟨rfl, rfl⟩ | ⟨rfl, rfl⟩ | ⟨rfl, rfl⟩ | ⟨rfl, rfl⟩ | ⟨rfl, rfl⟩ | ⟨rfl, rfl⟩ | ⟨rfl, rfl⟩ | ⟨rfl, rfl⟩ | ⟨rfl, rfl⟩ | ⟨rfl, rfl⟩
    · exact ⟨glo_ok X G (s.fact 8 (f := .glo "BadLine") rfl), (facts_x c x0 (by simp [xs])).kp, m0 s c⟩
    · exact ⟨glo_ok X G (s.fact 9 (f := .glo "BadRelease") rfl), (facts_x c x1 (by simp [xs])).kp, m1 s c⟩
    · exact ⟨glo_ok X G (s.fact 10 (f := .glo "BadRequest") rfl), (facts_x c x2 (by simp [xs])).kp, m2 s c⟩
    · exact ⟨glo_ok X G (s.fact 11 (f := .glo "BadTurn") rfl), (facts_x c x3 (by simp [xs])).kp, m3 s c⟩
    · exact ⟨glo_ok X G (s.fact 12 (f := .glo "OffPlan") rfl), (facts_x c x4 (by simp [xs])).kp, m4 s c⟩
    · exact ⟨glo_ok X G (s.fact 13 (f := .glo "BadPlan") rfl), (facts_x c x5 (by simp [xs])).kp, m5 s c⟩
    · exact ⟨glo_ok X G (s.fact 14 (f := .glo "BadDemand") rfl), (facts_x c x6 (by simp [xs])).kp, m6 s c⟩
    · exact ⟨glo_ok X G (s.fact 15 (f := .glo "OtherService") rfl), (facts_x c x7 (by simp [xs])).kp, m7 s c⟩
    · exact ⟨glo_ok X G (s.fact 16 (f := .glo "TooMany") rfl), (facts_x c x8 (by simp [xs])).kp, m8 s c⟩
    · exact ⟨glo_ok X G (s.fact 17 (f := .glo "NoServer") rfl), (facts_x c x9 (by simp [xs])).kp, m9 s c⟩
    · exact ⟨glo_ok X G (s.fact 18 (f := .glo "NoDialogue") rfl), (facts_x c x10 (by simp [xs])).kp, m10 s c⟩
    · exact ⟨glo_ok X G (s.fact 19 (f := .glo "Refused") rfl), (facts_x c x11 (by simp [xs])).kp, m11 s c⟩
  xfs := fun k f hm => by
    have hm : (k, f) ∈ T.xfs := hm
    simp only [T, List.mem_cons, List.not_mem_nil, or_false, Prod.mk.injEq] at hm
    rcases hm with ⟨rfl, rfl⟩ | ⟨rfl, rfl⟩ | ⟨rfl, rfl⟩ | ⟨rfl, rfl⟩ | ⟨rfl, rfl⟩ | ⟨rfl, rfl⟩ | ⟨rfl, rfl⟩ | ⟨rfl, rfl⟩ | ⟨rfl, rfl⟩ | ⟨rfl, rfl⟩ | ⟨rfl, rfl⟩ | ⟨rfl, rfl⟩
    · exact ⟨(facts_x c x0 (by simp [xs])).xi, (facts_x c x0 (by simp [xs])).nf "line" (by decide)⟩
    · exact ⟨(facts_x c x1 (by simp [xs])).xi, (facts_x c x1 (by simp [xs])).nf "name" (by decide)⟩
    · exact ⟨(facts_x c x2 (by simp [xs])).xi, (facts_x c x2 (by simp [xs])).nf "request" (by decide)⟩
    · exact ⟨(facts_x c x3 (by simp [xs])).xi, (facts_x c x3 (by simp [xs])).nf "at" (by decide)⟩
    · exact ⟨(facts_x c x4 (by simp [xs])).xi, (facts_x c x4 (by simp [xs])).nf "at" (by decide)⟩
    · exact ⟨(facts_x c x5 (by simp [xs])).xi, (facts_x c x5 (by simp [xs])).nf "at" (by decide)⟩
    · exact ⟨(facts_x c x6 (by simp [xs])).xi, (facts_x c x6 (by simp [xs])).nf "demand" (by decide)⟩
    · exact ⟨(facts_x c x8 (by simp [xs])).xi, (facts_x c x8 (by simp [xs])).nf "what" (by decide)⟩
    · exact ⟨(facts_x c x9 (by simp [xs])).xi, (facts_x c x9 (by simp [xs])).nf "server" (by decide)⟩
    · exact ⟨(facts_x c x10 (by simp [xs])).xi, (facts_x c x10 (by simp [xs])).nf "number" (by decide)⟩
    · exact ⟨(facts_x c x11 (by simp [xs])).xi, (facts_x c x11 (by simp [xs])).nf "at" (by decide)⟩
    · exact ⟨(facts_x c x11 (by simp [xs])).xi, (facts_x c x11 (by simp [xs])).nf "word" (by decide)⟩
  ics := fun x ic e => by
    have hm := PySem.mem_of_lookup e
    have hm : (x, ic) ∈ [(("BadLine" : Str), Ic.cls 0), (("BadRelease" : Str), Ic.cls 1), (("BadRequest" : Str), Ic.cls 2), (("BadTurn" : Str), Ic.cls 3), (("OffPlan" : Str), Ic.cls 4), (("BadPlan" : Str), Ic.cls 5), (("BadDemand" : Str), Ic.cls 6), (("OtherService" : Str), Ic.cls 7), (("TooMany" : Str), Ic.cls 8), (("NoServer" : Str), Ic.cls 9), (("NoDialogue" : Str), Ic.cls 10), (("Refused" : Str), Ic.cls 11), (("MixedError" : Str), Ic.cls 12), (("ValueError" : Str), Ic.ty "ValueError"), (("LookupError" : Str), Ic.ty "LookupError"), (("RuntimeError" : Str), Ic.ty "RuntimeError")] := hm
    simp only [List.mem_cons, List.not_mem_nil, or_false, Prod.mk.injEq] at hm
    rcases hm with ⟨rfl, rfl⟩ | ⟨rfl, rfl⟩ | ⟨rfl, rfl⟩ | ⟨rfl, rfl⟩ | ⟨rfl, rfl⟩ | ⟨rfl, rfl⟩ | ⟨rfl, rfl⟩ | ⟨rfl, rfl⟩ | ⟨rfl, rfl⟩ | ⟨rfl, rfl⟩ | ⟨rfl, rfl⟩ | ⟨rfl, rfl⟩ | ⟨rfl, rfl⟩ | ⟨rfl, rfl⟩ | ⟨rfl, rfl⟩ | ⟨rfl, rfl⟩
    · exact glo_ok X G (s.fact 8 (f := .glo "BadLine") rfl)
    · exact glo_ok X G (s.fact 9 (f := .glo "BadRelease") rfl)
    · exact glo_ok X G (s.fact 10 (f := .glo "BadRequest") rfl)
    · exact glo_ok X G (s.fact 11 (f := .glo "BadTurn") rfl)
    · exact glo_ok X G (s.fact 12 (f := .glo "OffPlan") rfl)
    · exact glo_ok X G (s.fact 13 (f := .glo "BadPlan") rfl)
    · exact glo_ok X G (s.fact 14 (f := .glo "BadDemand") rfl)
    · exact glo_ok X G (s.fact 15 (f := .glo "OtherService") rfl)
    · exact glo_ok X G (s.fact 16 (f := .glo "TooMany") rfl)
    · exact glo_ok X G (s.fact 17 (f := .glo "NoServer") rfl)
    · exact glo_ok X G (s.fact 18 (f := .glo "NoDialogue") rfl)
    · exact glo_ok X G (s.fact 19 (f := .glo "Refused") rfl)
    · exact glo_ok X G (s.fact 20 (f := .glo "MixedError") rfl)
    · exact ⟨free_ok X G (s.fact 29 (f := .free "ValueError") rfl), by decide +kernel, by decide⟩
    · exact ⟨free_ok X G (s.fact 30 (f := .free "LookupError") rfl), by decide +kernel, by decide⟩
    · exact ⟨free_ok X G (s.fact 31 (f := .free "RuntimeError") rfl), by decide +kernel, by decide⟩
  isa := fun k ic r e => isaB_ok (Mx.ba c).2 k ic r e
  free := fun x hm => by
    have hm : x ∈ T.free := hm
    simp only [T, List.mem_cons, List.not_mem_nil, or_false] at hm
    rcases hm with rfl | rfl | rfl | rfl | rfl | rfl | rfl | rfl | rfl | rfl | rfl
    · exact free_ok X G (s.fact 21 (f := .free "abs") rfl)
    · exact free_ok X G (s.fact 22 (f := .free "int") rfl)
    · exact free_ok X G (s.fact 23 (f := .free "isinstance") rfl)
    · exact free_ok X G (s.fact 24 (f := .free "len") rfl)
    · exact free_ok X G (s.fact 25 (f := .free "max") rfl)
    · exact free_ok X G (s.fact 26 (f := .free "min") rfl)
    · exact free_ok X G (s.fact 27 (f := .free "range") rfl)
    · exact free_ok X G (s.fact 28 (f := .free "repr") rfl)
    · exact free_ok X G (s.fact 29 (f := .free "ValueError") rfl)
    · exact free_ok X G (s.fact 30 (f := .free "LookupError") rfl)
    · exact free_ok X G (s.fact 31 (f := .free "RuntimeError") rfl)
theorem fns_t {h : Heap} (X : K.In h) (G : h.Ns mainGlobals mg) (s : SaysD faD fnD K) : ∀ x g n, T.fns.lookup x = some (g, n) → mg x = some (.ref (faK K g)) ∧ ∃ d, defs[g]? = some d ∧ d.np = n := by
  intro x g n e
  have hm := PySem.mem_of_lookup e
  simp only [T, fns, List.mem_cons, List.not_mem_nil, or_false, Prod.mk.injEq] at hm
  rcases hm with ⟨rfl, rfl, rfl⟩ | ⟨rfl, rfl, rfl⟩ | ⟨rfl, rfl, rfl⟩ | ⟨rfl, rfl, rfl⟩ | ⟨rfl, rfl, rfl⟩ | ⟨rfl, rfl, rfl⟩ | ⟨rfl, rfl, rfl⟩
  · exact ⟨glo_ok X G (s.fact 0 (f := .glo "_law_source") rfl), d0, rfl, rfl⟩
  · exact ⟨glo_ok X G (s.fact 1 (f := .glo "_law_draw") rfl), d1, rfl, rfl⟩
  · exact ⟨glo_ok X G (s.fact 2 (f := .glo "_law_pick") rfl), d2, rfl, rfl⟩
  · exact ⟨glo_ok X G (s.fact 3 (f := .glo "_law_size") rfl), d3, rfl, rfl⟩
  · exact ⟨glo_ok X G (s.fact 4 (f := .glo "_law_thing") rfl), d4, rfl, rfl⟩
  · exact ⟨glo_ok X G (s.fact 5 (f := .glo "_law_classes") rfl), d5, rfl, rfl⟩
  · exact ⟨glo_ok X G (s.fact 6 (f := .glo "_law_bases") rfl), d6, rfl, rfl⟩
end
end Kx
end

section
set_option maxRecDepth 100000
set_option maxHeartbeats 0
open PySem PySem.W PySem.Calls PyProof.Rows
theorem k96_from (plain : ∀ ns : List Int, ns.length ≤ 63 → (∀ k ∈ ns, Builtin.Int.intBits k ≤ 1048576) → ∃ S', Mx.callL (Mx.isaOf Kx.isaT) Kx.exf Kx.defs 8 7 [.frl (ns.map Mx.D.int)] [] = .ok (.bl true) S') : PySem.Challenge.rw_mixedanswers_k96_errors_made.Holds := by
  w_on; o_law
  refine HandSHeadRun.head_any (r := OpenLaw.row PySem.Challenge.rw_mixedanswers_k96_errors_made) (q := Kx.qv) (H := Kx.hk) (ob := Kx.ob) (M := 4000) (loose := Kx.loose) (d := HandSHeadRun.topDef (OpenLaw.row PySem.Challenge.rw_mixedanswers_k96_errors_made).prog 22) (kwd := []) Kx.ob_eq
    (by kernel_rfl) (fun s => by kernel_rfl) Kx.run (by kernel_rfl) (by kernel_rfl) (by kernel_rfl) (by rfl) (by first | assumption | decide +kernel) (by decide +kernel) ⟨rfl, rfl, rfl, rfl, rfl, by decide +kernel⟩ ?hw ?hc
  case hw => w_witness2
  case hc =>
    refine Mx.walk_G (l := PySem.Challenge.rw_mixedanswers_k96_errors_made) (n := 63) (k := 10) (x := "_law_script") rfl (by decide) (by kernel_rfl) ⟨rfl, by decide, by decide⟩ ?F
    intro w mg fa h Y G hmg0
    obtain ⟨K, KX, s, c⟩ := Y
    have hmg : mg ("law" : PySem.Str) = some (.ref fa) := by
      have e : (HandSHeadRun.topDef (OpenLaw.row PySem.Challenge.rw_mixedanswers_k96_errors_made).prog 22).name = ("law" : PySem.Str) := by kernel_rfl
      rw [← e]
      exact hmg0
    have e := hmg.symm.trans (He.glo_ok KX G (s.fact 7 (f := .glo "law") rfl))
    cases e
    obtain ⟨fd, F⟩ := s.def_ 7 (d := Kx.e7) rfl
    have b := L2.FunD.bindsA (ps := ["_law_script"]) F fun _ _ _ _ _ _ us hl => match us, hl with | [_], _ => rfl
    refine ⟨K, fd, Mx.spF K (Kx.caK K) (Mx.callL (Mx.isaOf Kx.isaT) Kx.exf Kx.defs 8) 7 1, KX, fun s v => b s [v] rfl, fun H a ns h1 h2 _ hS => Mx.law_sp (plain ns h1 h2) H a hS, fun base KB GB => ?_⟩
    exact Mx.defs_ok (fa := Kx.faK K) (Kx.tab_x KB GB s c) (Kx.def_r s) (Kx.fns_t KB GB s) 8 7 Kx.d7 rfl _ _ _ _ _ _ _ F (C8.fnScope_by (by decide +kernel)) rfl Kx.c7
end

section
set_option maxRecDepth 100000
set_option maxHeartbeats 4000000
namespace Kx
open PySem Mx L2
def defs' : List Df := [d0, d1, d2, d3, d4, d5, d6, d7]
variable {isa : Nat → Ic → Option Bool} {k n : Nat} {S : Sto}
theorem size_ev {xs : List D} {m : Int} : callL isa exf defs' (k + 1) 3 [.frl xs, .int m] S = .ok (.int (if (if (xs.length : Int) < m then (xs.length : Int) else m) > 1 then if (xs.length : Int) < m then (xs.length : Int) else m else 1)) S := by
  apply call_ok (d := d3) rfl rfl
  apply es_seqr
  repeat first
    | exact ev_con
    | exact ev_var rfl
    | exact ea_nil
    | exact es_skip
    | apply ev_bin
    | apply ev_cmp
    | apply ev_bi
    | apply ea_cons
    | apply ev_ix
    | apply ev_neg
    | apply ev_tup
    | apply ev_lst
    | apply el_lst
    | apply es_set
    | apply es_ret
    | apply es_retO
    | exact opIx_obj (by first | assumption | (apply get_set; omega)) rfl
    | exact rfl
    | exact okIf_pos (by first | omega | decide)
    | exact ⟨Nat.le_of_ble_eq_true rfl, rfl⟩
theorem draw_ev {a b c m : Int} (hS : S[n]? = some (some (.lst [.int a, .int b, .int c]))) (hm : 0 < m) (hm2 : m < 2 ^ 150) (hc : 0 ≤ c) (hc2 : c < 2 ^ 100) :
    ∃ r a' c' : Int, callL isa exf defs' (k + 1) 1 [.obj n, .int m] S = .ok (.int r) (S.set n (some (.lst [.int a', .int b, .int c']))) ∧ 0 ≤ r ∧ r < m ∧ 0 ≤ c' ∧ c' ≤ c + 1 := by
  have hl : n < S.length := (List.getElem?_eq_some_iff.mp hS).1
  by_cases ha : 0 < a
  · refine ⟨a % m, a / m, c, ?_, Int.emod_nonneg _ (by omega), Int.emod_lt_of_pos _ hm, hc, by omega⟩
    apply call_ok (d := d1) rfl rfl
    apply es_seqr
    apply es_ift
    · apply et_of
      rw [show true = decide (0 < a) from (decide_eq_true ha).symm]
      repeat first
        | exact ev_con
        | exact ev_var rfl
        | exact ea_nil
        | exact es_skip
        | apply ev_bin
        | apply ev_cmp
        | apply ev_bi
        | apply ea_cons
        | apply ev_ix
        | apply ev_neg
        | apply ev_tup
        | apply ev_lst
        | apply el_lst
        | apply es_set
        | apply es_ret
        | apply es_retO
        | exact opIx_obj (by first | assumption | (apply get_set; omega)) rfl
        | exact rfl
        | exact okIf_pos (by first | omega | decide)
        | exact ⟨Nat.le_of_ble_eq_true rfl, rfl⟩
    · apply es_seq
      · repeat first
          | exact ev_con
          | exact ev_var rfl
          | exact ea_nil
          | exact es_skip
          | apply ev_bin
          | apply ev_cmp
          | apply ev_bi
          | apply ea_cons
          | apply ev_ix
          | apply ev_neg
          | apply ev_tup
          | apply ev_lst
          | apply el_lst
          | apply es_set
          | apply es_ret
          | apply es_retO
          | exact opIx_obj (by first | assumption | (apply get_set; omega)) rfl
          | exact rfl
          | exact okIf_pos (by first | omega | decide)
          | exact ⟨Nat.le_of_ble_eq_true rfl, rfl⟩
      · apply es_seq
        · apply es_stIx (h4 := hS)
          repeat first
            | exact ev_con
            | exact ev_var rfl
            | exact ea_nil
            | exact es_skip
            | apply ev_bin
            | apply ev_cmp
            | apply ev_bi
            | apply ea_cons
            | apply ev_ix
            | apply ev_neg
            | apply ev_tup
            | apply ev_lst
            | apply el_lst
            | apply es_set
            | apply es_ret
            | apply es_retO
            | exact opIx_obj (by first | assumption | (apply get_set; omega)) rfl
            | exact rfl
            | exact okIf_pos (by first | omega | decide)
            | exact ⟨Nat.le_of_ble_eq_true rfl, rfl⟩
        · apply es_seqr
          repeat first
            | exact ev_con
            | exact ev_var rfl
            | exact ea_nil
            | exact es_skip
            | apply ev_bin
            | apply ev_cmp
            | apply ev_bi
            | apply ea_cons
            | apply ev_ix
            | apply ev_neg
            | apply ev_tup
            | apply ev_lst
            | apply el_lst
            | apply es_set
            | apply es_ret
            | apply es_retO
            | exact opIx_obj (by first | assumption | (apply get_set; omega)) rfl
            | exact rfl
            | exact okIf_pos (by first | omega | decide)
            | exact ⟨Nat.le_of_ble_eq_true rfl, rfl⟩
  · apply Exists.intro
    refine ⟨a, c + 1, ?_⟩
    apply And.intro
    case left =>
      apply call_ok (d := d1) rfl rfl
      apply es_seq
      · apply es_iff
        · apply et_of
          rw [show false = decide (0 < a) from (decide_eq_false ha).symm]
          repeat first
            | exact ev_con
            | exact ev_var rfl
            | exact ea_nil
            | exact es_skip
            | apply ev_bin
            | apply ev_cmp
            | apply ev_bi
            | apply ea_cons
            | apply ev_ix
            | apply ev_neg
            | apply ev_tup
            | apply ev_lst
            | apply el_lst
            | apply es_set
            | apply es_ret
            | apply es_retO
            | exact opIx_obj (by first | assumption | (apply get_set; omega)) rfl
            | exact rfl
            | exact okIf_pos (by first | omega | decide)
            | exact ⟨Nat.le_of_ble_eq_true rfl, rfl⟩
        · exact es_skip
      · apply es_seq
        · apply es_stIx (h4 := hS)
          repeat first
            | exact ev_con
            | exact ev_var rfl
            | exact ea_nil
            | exact es_skip
            | apply ev_bin
            | apply ev_cmp
            | apply ev_bi
            | apply ea_cons
            | apply ev_ix
            | apply ev_neg
            | apply ev_tup
            | apply ev_lst
            | apply el_lst
            | apply es_set
            | apply es_ret
            | apply es_retO
            | exact opIx_obj (by first | assumption | (apply get_set; omega)) rfl
            | exact rfl
            | exact okIf_pos (by first | omega | decide)
            | exact ⟨Nat.le_of_ble_eq_true rfl, rfl⟩
        · apply es_seq
          · repeat first
              | exact ev_con
              | exact ev_var rfl
              | exact ea_nil
              | exact es_skip
              | apply ev_bin
              | apply ev_cmp
              | apply ev_bi
              | apply ea_cons
              | apply ev_ix
              | apply ev_neg
              | apply ev_tup
              | apply ev_lst
              | apply el_lst
              | apply es_set
              | apply es_ret
              | apply es_retO
              | exact opIx_obj (by first | assumption | (apply get_set; omega)) rfl
              | exact rfl
              | exact okIf_pos (by first | omega | decide)
              | exact ⟨Nat.le_of_ble_eq_true rfl, rfl⟩
          · apply es_seq
            · repeat first
                | exact ev_con
                | exact ev_var rfl
                | exact ea_nil
                | exact es_skip
                | apply ev_bin
                | apply ev_cmp
                | apply ev_bi
                | apply ea_cons
                | apply ev_ix
                | apply ev_neg
                | apply ev_tup
                | apply ev_lst
                | apply el_lst
                | apply es_set
                | apply es_ret
                | apply es_retO
                | exact opIx_obj (by first | assumption | (apply get_set; omega)) rfl
                | exact rfl
                | exact okIf_pos (by first | omega | decide)
                | exact ⟨Nat.le_of_ble_eq_true rfl, rfl⟩
            · apply es_seq
              · repeat first
                  | exact ev_con
                  | exact ev_var rfl
                  | exact ea_nil
                  | exact es_skip
                  | apply ev_bin
                  | apply ev_cmp
                  | apply ev_bi
                  | apply ea_cons
                  | apply ev_ix
                  | apply ev_neg
                  | apply ev_tup
                  | apply ev_lst
                  | apply el_lst
                  | apply es_set
                  | apply es_ret
                  | apply es_retO
                  | exact opIx_obj (by first | assumption | (apply get_set; omega)) rfl
                  | exact rfl
                  | exact okIf_pos (by first | omega | decide)
                  | exact ⟨Nat.le_of_ble_eq_true rfl, rfl⟩
              · apply es_seqr
                repeat first
                  | exact ev_con
                  | exact ev_var rfl
                  | exact ea_nil
                  | exact es_skip
                  | apply ev_bin
                  | apply ev_cmp
                  | apply ev_bi
                  | apply ea_cons
                  | apply ev_ix
                  | apply ev_neg
                  | apply ev_tup
                  | apply ev_lst
                  | apply el_lst
                  | apply es_set
                  | apply es_ret
                  | apply es_retO
                  | exact opIx_obj (by first | assumption | (apply get_set; omega)) rfl
                  | exact rfl
                  | exact okIf_pos (by first | omega | decide)
                  | exact ⟨Nat.le_of_ble_eq_true rfl, rfl⟩
    case right => exact ⟨Int.emod_nonneg _ (by omega), Int.emod_lt_of_pos _ hm, by omega, Int.le_refl _⟩
theorem source_ev {ns : List Int} {at_ : Nat} (h : at_ < ns.length) (h63 : ns.length ≤ 63) : ∃ a b : Int, callL isa exf defs' (k + 1) 0 [.frl (ns.map D.int), .int at_] S = .ok (.obj S.length) (S ++ [some (.lst [.int a, .int b, .int 0])]) := by
  have hl : at_ < (ns.map D.int).length := by simpa using h
  have ix : atI (ns.map D.int) (at_ : Int) = some (.int ns[at_]) := by rw [atI_nat hl]; simp
  apply Exists.intro
  apply Exists.intro
  · apply call_ok (d := d0) rfl rfl
    apply es_seq
    · apply es_set
      · apply ev_itet (S1 := S)
        · have e : D.bl true = .bl (decide ((at_ : Int) < (ns.map D.int).length)) := by rw [decide_eq_true (by omega)]
          rw [e]
          repeat first
            | exact ev_con
            | exact ev_var rfl
            | exact ea_nil
            | exact es_skip
            | apply ev_bin
            | apply ev_cmp
            | apply ev_bi
            | apply ea_cons
            | apply ev_ix
            | apply ev_neg
            | apply ev_tup
            | apply ev_lst
            | apply el_lst
            | apply es_set
            | apply es_ret
            | apply es_retO
            | exact opIx_obj (by first | assumption | (apply get_set; omega)) rfl
            | exact rfl
            | exact okIf_pos (by first | omega | decide)
            | exact ⟨Nat.le_of_ble_eq_true rfl, rfl⟩
        · apply ev_ix
          · exact ev_var rfl
          · exact ev_var rfl
          · exact opIx_frl ix
      · rfl
    · apply es_seq
      · repeat first
          | exact ev_con
          | exact ev_var rfl
          | exact ea_nil
          | exact es_skip
          | apply ev_bin
          | apply ev_cmp
          | apply ev_bi
          | apply ea_cons
          | apply ev_ix
          | apply ev_neg
          | apply ev_tup
          | apply ev_lst
          | apply el_lst
          | apply es_set
          | apply es_ret
          | apply es_retO
          | exact opIx_obj (by first | assumption | (apply get_set; omega)) rfl
          | exact rfl
          | exact okIf_pos (by first | omega | decide)
          | exact ⟨Nat.le_of_ble_eq_true rfl, rfl⟩
      · apply es_seqr
        apply es_retO
        apply el_lst
        · apply ea_cons
          · have e : ∀ v : Int, (if decide (0 < v) = true then D.int v else D.int 0) = D.int (if 0 < v then v else 0) := fun v => by by_cases h : 0 < v <;> simp [h]
            rw [← e]
            apply ev_ite
            repeat first
              | exact ev_con
              | exact ev_var rfl
              | exact ea_nil
              | exact es_skip
              | apply ev_bin
              | apply ev_cmp
              | apply ev_bi
              | apply ea_cons
              | apply ev_ix
              | apply ev_neg
              | apply ev_tup
              | apply ev_lst
              | apply el_lst
              | apply es_set
              | apply es_ret
              | apply es_retO
              | exact opIx_obj (by first | assumption | (apply get_set; omega)) rfl
              | exact rfl
              | exact okIf_pos (by first | omega | decide)
              | exact ⟨Nat.le_of_ble_eq_true rfl, rfl⟩
          · repeat first
              | exact ev_con
              | exact ev_var rfl
              | exact ea_nil
              | exact es_skip
              | apply ev_bin
              | apply ev_cmp
              | apply ev_bi
              | apply ea_cons
              | apply ev_ix
              | apply ev_neg
              | apply ev_tup
              | apply ev_lst
              | apply el_lst
              | apply es_set
              | apply es_ret
              | apply es_retO
              | exact opIx_obj (by first | assumption | (apply get_set; omega)) rfl
              | exact rfl
              | exact okIf_pos (by first | omega | decide)
              | exact ⟨Nat.le_of_ble_eq_true rfl, rfl⟩
        · exact ⟨Nat.le_of_ble_eq_true rfl, rfl⟩
end Kx
end

section
set_option maxRecDepth 100000
set_option maxHeartbeats 4000000
namespace Kx
open PySem Mx L2
variable {isa : Nat → Ic → Option Bool} {k n : Nat} {S : Sto}
theorem pick_ev {a b c : Int} {xs : List D} (hS : S[n]? = some (some (.lst [.int a, .int b, .int c]))) (h0 : 0 < xs.length) (h1 : xs.length < 1000) (hc : 0 ≤ c) (hc2 : c < 2 ^ 100) :
    ∃ (d : D) (a' c' : Int), callL isa exf defs' (k + 2) 2 [.obj n, .lst xs] S = .ok d (S.set n (some (.lst [.int a', .int b, .int c']))) ∧ d ∈ xs ∧ 0 ≤ c' ∧ c' ≤ c + 1 := by
  obtain ⟨r, a', c', e, h2, h3, h4, h5⟩ := draw_ev (isa := isa) (k := k) (m := xs.length) hS (by omega) (by omega) hc hc2
  have hr : ((r.toNat : Nat) : Int) = r := Int.toNat_of_nonneg h2
  have hl : r.toNat < xs.length := by omega
  refine ⟨xs[r.toNat], a', c', ?_, List.getElem_mem hl, h4, h5⟩
  apply call_ok (d := d2) rfl rfl
  apply es_seqr
  apply es_ret
  apply ev_ix
  · exact ev_var rfl
  · apply ev_call
    · repeat first
        | exact ev_con
        | exact ev_var rfl
        | exact ea_nil
        | exact es_skip
        | apply ev_bin
        | apply ev_cmp
        | apply ev_bi
        | apply ea_cons
        | apply ev_ix
        | apply ev_neg
        | apply ev_tup
        | apply ev_lst
        | apply el_lst
        | apply es_set
        | apply es_ret
        | apply es_retO
        | exact opIx_obj (by first | assumption | (apply get_set; omega)) rfl
        | exact rfl
        | exact okIf_pos (by first | omega | decide)
        | exact ⟨Nat.le_of_ble_eq_true rfl, rfl⟩
    · rfl
    · exact e
  · refine opIx_lst ?_
    have q := atI_nat (ds := xs) hl
    rw [hr] at q
    exact q
/-- what is drawn -/
def Thing (d : D) : Prop := (∃ r : Int, 0 ≤ r ∧ r < 10 ^ 30 ∧ d = .int r) ∨ d = .int (-1) ∨ d = .non ∨ d = .bl true ∨ d = .str "" ∨ d = .str "line" ∨ d = .tup [.int 1, .str "a"] ∨ d = .lst [] ∨ d = .lst [.str "same"] ∨ d = .tup [.non]
theorem thing_ev {a b c : Int} (hS : S[n]? = some (some (.lst [.int a, .int b, .int c]))) (hc : 0 ≤ c) (hc2 : c < 2 ^ 90) :
    ∃ (d : D) (a' c' : Int), callL isa exf defs' (k + 3) 4 [.obj n] S = .ok d (S.set n (some (.lst [.int a', .int b, .int c']))) ∧ Thing d ∧ 0 ≤ c' ∧ c' ≤ c + 2 := by
  have hl : n < S.length := (List.getElem?_eq_some_iff.mp hS).1
  obtain ⟨r, a1, c1, e, h2, h3, h4, h5⟩ := draw_ev (isa := isa) (k := k + 1) (m := 10 ^ 30) hS (by omega) (by omega) hc (by omega)
  have hS1 : (S.set n (some (.lst [.int a1, .int b, .int c1])))[n]? = some (some (.lst [.int a1, .int b, .int c1])) := get_set hl
  obtain ⟨d, a2, c2, e2, hd, h6, h7⟩ := pick_ev (isa := isa) (k := k) (xs := [.int r, .int 0, .int (-1), .non, .bl true, .str "", .str "line", .tup [.int 1, .str "a"], .lst [], .lst [.str "same"], .tup [.non]]) hS1 (Nat.zero_lt_succ _) (Nat.le_of_ble_eq_true rfl) h4 (by omega)
  refine ⟨d, a2, c2, ?_, ?_, h6, by omega⟩
  · rw [List.set_set] at e2
    apply call_ok (d := d4) rfl rfl
    apply es_seqr
    apply es_ret
    apply ev_call
    · apply ea_cons
      · exact ev_var rfl
      · apply ea_cons
        · apply ev_lst
          · apply ea_cons
            · apply ev_call
              · repeat first
                  | exact ev_con
                  | exact ev_var rfl
                  | exact ea_nil
                  | exact es_skip
                  | apply ev_bin
                  | apply ev_cmp
                  | apply ev_bi
                  | apply ea_cons
                  | apply ev_ix
                  | apply ev_neg
                  | apply ev_tup
                  | apply ev_lst
                  | apply el_lst
                  | apply es_set
                  | apply es_ret
                  | apply es_retO
                  | exact opIx_obj (by first | assumption | (apply get_set; omega)) rfl
                  | exact rfl
                  | exact okIf_pos (by first | omega | decide)
                  | exact ⟨Nat.le_of_ble_eq_true rfl, rfl⟩
              · rfl
              · exact e
            · repeat first
                | exact ev_con
                | exact ev_var rfl
                | exact ea_nil
                | exact es_skip
                | apply ev_bin
                | apply ev_cmp
                | apply ev_bi
                | apply ea_cons
                | apply ev_ix
                | apply ev_neg
                | apply ev_tup
                | apply ev_lst
                | apply el_lst
                | apply es_set
                | apply es_ret
                | apply es_retO
                | exact opIx_obj (by first | assumption | (apply get_set; omega)) rfl
                | exact rfl
                | exact okIf_pos (by first | omega | decide)
                | exact ⟨Nat.le_of_ble_eq_true rfl, rfl⟩
          · exact ⟨Nat.le_of_ble_eq_true rfl, rfl⟩
        · exact ea_nil
    · rfl
    · exact e2
  · simp only [List.mem_cons, List.not_mem_nil, or_false] at hd
    unfold Thing
    rcases hd with rfl | rfl | rfl | rfl | rfl | rfl | rfl | rfl | rfl | rfl | rfl
    · exact .inl ⟨r, h2, h3, rfl⟩
    · exact .inl ⟨0, by omega, by omega, rfl⟩
    all_goals simp
end Kx
end

section
set_option maxRecDepth 100000
set_option maxHeartbeats 4000000
namespace Kx
open PySem Mx L2
variable {isa : Nat → Ic → Option Bool} {k n : Nat} {S : Sto}
/-- a datum whose text is short -/
structure Good (p : PyData) : Prop where
  lay : p.canLay0 = true
  dep : p.depth ≤ 1
  wei : p.weight ≤ 101
  shi : p.intsShort 31 = true
  sho : p.showable = true
theorem thing_good {d : D} (h : Thing d) : ∃ p, toPy d = some p ∧ Good p := by
  unfold Thing at h
  rcases h with ⟨r, h1, h2, rfl⟩ | rfl | rfl | rfl | rfl | rfl | rfl | rfl | rfl | rfl
  · have lt : r.natAbs < 2 ^ 100 := by omega
    have lg : r.natAbs.log2 < 100 := by
      by_cases h0 : r.natAbs = 0
      · rw [h0]; decide
      · exact (Nat.log2_lt h0).mpr lt
    refine ⟨.int r, rfl, rfl, Nat.zero_le _, ?_, ?_, ?_⟩
    · show (if r == 0 then 0 else r.natAbs.log2 + 1) ≤ 101
      split <;> omega
    · have q := PyProof.Rows.toString_length_le (v := r) (k := 31) h1 (by decide) (by omega)
      show decide ((PyData.shown (.int r)).length ≤ 31) = true
      refine decide_eq_true ?_
      simpa [PyData.shown] using q
    · show decide (r.natAbs.log2 < 1920) = true
      exact decide_eq_true (by omega)
  · exact ⟨.int (-1), rfl, by decide +kernel, by decide +kernel, by decide +kernel, by decide +kernel, by decide +kernel⟩
  · exact ⟨.none, rfl, by decide +kernel, by decide +kernel, by decide +kernel, by decide +kernel, by decide +kernel⟩
  · exact ⟨.bool true, rfl, by decide +kernel, by decide +kernel, by decide +kernel, by decide +kernel, by decide +kernel⟩
  · exact ⟨.str "", rfl, by decide +kernel, by decide +kernel, by decide +kernel, by decide +kernel, by decide +kernel⟩
  · exact ⟨.str "line", rfl, by decide +kernel, by decide +kernel, by decide +kernel, by decide +kernel, by decide +kernel⟩
  · exact ⟨.tuple [.int 1, .str "a"], rfl, by decide +kernel, by decide +kernel, by decide +kernel, by decide +kernel, by decide +kernel⟩
  · exact ⟨.list [], rfl, by decide +kernel, by decide +kernel, by decide +kernel, by decide +kernel, by decide +kernel⟩
  · exact ⟨.list [.str "same"], rfl, by decide +kernel, by decide +kernel, by decide +kernel, by decide +kernel, by decide +kernel⟩
  · exact ⟨.tuple [.none], rfl, by decide +kernel, by decide +kernel, by decide +kernel, by decide +kernel, by decide +kernel⟩
theorem good_all : ∀ {ps : List PyData}, (∀ p ∈ ps, Good p) → PyData.canLayAll0 ps = true ∧ PyData.depthAll ps ≤ 1 ∧ PyData.weightAll ps ≤ 102 * ps.length ∧ PyData.intsShortAll 31 ps = true ∧ PyData.showableAll ps = true
  | [], _ => ⟨rfl, Nat.zero_le _, Nat.zero_le _, rfl, rfl⟩
  | p :: ps, h => by
    obtain ⟨h1, h2, h3, h4, h5⟩ := good_all (ps := ps) fun x hx => h x (List.mem_cons_of_mem _ hx)
    have g := h p List.mem_cons_self
    refine ⟨?_, ?_, ?_, ?_, ?_⟩
    · rw [PyData.canLayAll0, g.lay, h1]; rfl
    · rw [PyData.depthAll]; exact Nat.max_le.mpr ⟨g.dep, h2⟩
    · rw [PyData.weightAll, List.length_cons]; have := g.wei; omega
    · rw [PyData.intsShortAll, g.shi, h4]; rfl
    · rw [PyData.showableAll, g.sho, h5]; rfl
theorem repr_ok {L : List D} {ps : List PyData} (e : toPyA L = some ps) (h : ∀ p ∈ ps, Good p) (hl : ps.length ≤ 20) : ∃ s, ∀ S, opBi .repr [.d (.lst L)] S = .ok (.str s) S := by
  obtain ⟨h1, h2, h3, h4, h5⟩ := good_all h
  have e2 : ∀ S, pyOv S (.d (.lst L)) = some (.list ps) := fun S => by simp [pyOv, seqOv, e]
  have lay : (PyData.list ps).canLay0 = true := by simpa [PyData.canLay0] using h1
  have sl := PyData.shown_le 31 (by decide) (.list ps) (PyData.leavesShort_of_canLay0 31 _ lay (by simpa [PyData.intsShort] using h4))
  have wl : (PyData.list ps).weight ≤ 102 * ps.length := by simpa [PyData.weight] using h3
  refine ⟨(PyData.list ps).shown, fun S => ?_⟩
  show (match pyOv S (.d (.lst L)) with
    | some (.list xs) => okIf _ _ S
    | _ => .stuck) = _
  rw [e2]
  refine okIf_pos ⟨by simpa [PyData.showable] using h5, PyData.hasDict_of_canLay _ lay, ?_, ?_⟩
  · show PyData.depthAll ps + 1 ≤ 60
    omega
  · rw [sizeLine_eq]
    refine Nat.le_trans sl ?_
    have : (31 + 2) * (PyData.list ps).weight ≤ 33 * (102 * 20) := Nat.mul_le_mul_left _ (Nat.le_trans wl (Nat.mul_le_mul_left _ hl))
    omega
theorem opNe_str {s : Str} : opC .ne (.d (.str s)) (.d (.str s)) S = .ok (.bl false) S := by
  show Res.ok (D.bl (!decide (V.str s = V.str s))) S = _
  simp
theorem opNe_lst {L : List D} {ps : List PyData} (e : toPyA L = some ps) (h1 : PyData.canLayAll0 ps = true) (h2 : PyData.depthAll ps ≤ 60) : opC .ne (.d (.lst L)) (.d (.lst L)) S = .ok (.bl false) S := by
  show blR ((opEq (.d (.lst L)) (.d (.lst L)) S).map (!·)) S = _
  have e2 : pyOv S (.d (.lst L)) = some (.list ps) := by simp [pyOv, seqOv, e]
  have lay : (PyData.list ps).canLay0 = true := by simpa [PyData.canLay0] using h1
  have sh : SeqAt.shaped (.list ps) = true := by
    unfold SeqAt.shaped
    rw [lay]
    exact decide_eq_true (show PyData.depthAll ps + 1 ≤ 64 by omega)
  unfold opEq
  rw [e2]
  dsimp only
  rw [if_pos ⟨sh, sh⟩, SeqAt.eqv_refl _ lay]
  rfl
theorem classes_ev {q : Nat} {fs : List (Str × D)} (hS : S[n]? = some (some (.exc q fs))) (hI : ∀ j, j < 12 → isa q (.cls j) = some (decide (j = q))) :
    callL isa exf defs' (k + 1) 5 [.obj n] S = .ok (.lst [.bl (decide (0 = q)), .bl (decide (1 = q)), .bl (decide (2 = q)), .bl (decide (3 = q)), .bl (decide (4 = q)), .bl (decide (5 = q)), .bl (decide (6 = q)), .bl (decide (7 = q)), .bl (decide (8 = q)), .bl (decide (9 = q)), .bl (decide (10 = q)), .bl (decide (11 = q))]) S := by
  apply call_ok (d := d5) rfl rfl
  apply es_seq
  · apply es_set
    · apply ev_lst
      · apply ea_cons
        · exact ev_isi (ev_var rfl) hS (hI 0 (by decide))
        · apply ea_cons
          · exact ev_isi (ev_var rfl) hS (hI 1 (by decide))
          · apply ea_cons
            · exact ev_isi (ev_var rfl) hS (hI 2 (by decide))
            · apply ea_cons
              · exact ev_isi (ev_var rfl) hS (hI 3 (by decide))
              · exact ea_nil
      · exact ⟨Nat.le_of_ble_eq_true rfl, rfl⟩
    · rfl
  · apply es_seq
    · apply es_set
      · apply ev_bin
        · exact ev_var rfl
        · apply ev_lst
          · apply ea_cons
            · exact ev_isi (ev_var rfl) hS (hI 4 (by decide))
            · apply ea_cons
              · exact ev_isi (ev_var rfl) hS (hI 5 (by decide))
              · apply ea_cons
                · exact ev_isi (ev_var rfl) hS (hI 6 (by decide))
                · apply ea_cons
                  · exact ev_isi (ev_var rfl) hS (hI 7 (by decide))
                  · exact ea_nil
          · exact ⟨Nat.le_of_ble_eq_true rfl, rfl⟩
        · exact okIf_pos (Nat.le_of_ble_eq_true rfl)
      · rfl
    · apply es_seqr
      apply es_ret
      apply ev_bin
      · exact ev_var rfl
      · apply ev_lst
        · apply ea_cons
          · exact ev_isi (ev_var rfl) hS (hI 8 (by decide))
          · apply ea_cons
            · exact ev_isi (ev_var rfl) hS (hI 9 (by decide))
            · apply ea_cons
              · exact ev_isi (ev_var rfl) hS (hI 10 (by decide))
              · apply ea_cons
                · exact ev_isi (ev_var rfl) hS (hI 11 (by decide))
                · exact ea_nil
        · exact ⟨Nat.le_of_ble_eq_true rfl, rfl⟩
      · exact okIf_pos (Nat.le_of_ble_eq_true rfl)
theorem bases_ev {q : Nat} {fs : List (Str × D)} {b0 b1 b2 b3 : Bool} (hS : S[n]? = some (some (.exc q fs))) (h0 : isa q (.cls 12) = some b0) (h1 : isa q (.ty "ValueError") = some b1) (h2 : isa q (.ty "LookupError") = some b2) (h3 : isa q (.ty "RuntimeError") = some b3) :
    callL isa exf defs' (k + 1) 6 [.obj n] S = .ok (.lst [.bl b0, .bl b1, .bl b2, .bl b3]) S := by
  apply call_ok (d := d6) rfl rfl
  apply es_seqr
  apply es_ret
  apply ev_lst
  · exact ea_cons (ev_isi (ev_var rfl) hS h0) (ea_cons (ev_isi (ev_var rfl) hS h1) (ea_cons (ev_isi (ev_var rfl) hS h2) (ea_cons (ev_isi (ev_var rfl) hS h3) ea_nil)))
  · exact ⟨Nat.le_of_ble_eq_true rfl, rfl⟩
end Kx
end

section
set_option maxRecDepth 100000
set_option maxHeartbeats 8000000
namespace Kx
open PySem Mx L2
structure IsaOk (isa : Nat → Ic → Option Bool) : Prop where
  hc : ∀ q, q < 12 → ∀ j, j < 12 → isa q (.cls j) = some (decide (j = q))
  hm : ∀ q, q < 12 → isa q (.cls 12) = some (decide (q < 9))
  hv : ∀ q, q < 12 → isa q (.ty "ValueError") = some (decide (q < 9))
  hl : ∀ q, q < 12 → isa q (.ty "LookupError") = some (decide (q = 9 ∨ q = 10))
  hr : ∀ q, q < 12 → isa q (.ty "RuntimeError") = some (decide (q = 11))
def ob7 : Sx := (.seq (.set 2 (.call 0 (.cons (.var 0) (.cons (.var 1) .nil)))) (.seq (.par 6 7 (.call 4 (.cons (.var 2) .nil)) (.call 4 (.cons (.var 2) .nil))) (.seq (.set 3 (.lst (.cons (.mk 0 (.cons (.var 6) .nil)) (.cons (.mk 1 (.cons (.var 6) .nil)) (.cons (.mk 2 (.cons (.var 6) .nil)) (.cons (.mk 3 (.cons (.var 6) .nil)) (.cons (.mk 4 (.cons (.var 6) .nil)) (.cons (.mk 5 (.cons (.var 6) .nil)) (.cons (.mk 6 (.cons (.var 6) .nil)) .nil))))))))) (.seq (.set 3 (.bin .add (.var 3) (.lst (.cons (.mk 7 .nil) (.cons (.mk 8 (.cons (.var 6) .nil)) (.cons (.mk 9 (.cons (.var 6) .nil)) (.cons (.mk 10 (.cons (.var 6) .nil)) (.cons (.mk 11 (.cons (.var 6) (.cons (.var 7) .nil))) .nil)))))))) (.seq (.set 4 (.lst (.cons (.xfl 0 (.ix (.var 3) (.con (.int 0))) "line") (.cons (.xfl 1 (.ix (.var 3) (.con (.int 1))) "name") (.cons (.xfl 2 (.ix (.var 3) (.con (.int 2))) "request") (.cons (.xfl 3 (.ix (.var 3) (.con (.int 3))) "at") (.cons (.xfl 4 (.ix (.var 3) (.con (.int 4))) "at") (.cons (.xfl 5 (.ix (.var 3) (.con (.int 5))) "at") (.cons (.xfl 6 (.ix (.var 3) (.con (.int 6))) "demand") .nil))))))))) (.seq (.set 4 (.bin .add (.var 4) (.lst (.cons (.xfl 8 (.ix (.var 3) (.con (.int 8))) "what") (.cons (.xfl 9 (.ix (.var 3) (.con (.int 9))) "server") (.cons (.xfl 10 (.ix (.var 3) (.con (.int 10))) "number") (.cons (.xfl 11 (.ix (.var 3) (.con (.int 11))) "at") (.cons (.xfl 11 (.ix (.var 3) (.con (.int 11))) "word") .nil)))))))) (.seq (.ifS (.cmp .ne (.bi .repr (.cons (.var 4) .nil)) (.bi .repr (.cons (.bin .add (.bin .mul (.lst (.cons (.var 6) .nil)) (.con (.int 11))) (.lst (.cons (.var 7) .nil))) .nil))) (.seq (.ret (.con (.bl false))) .skip) .skip) (.seq (.forS (.name 5) (.rng1 (.con (.int 12))) (.seq (.ifS (.cmp .ne (.call 5 (.cons (.ix (.var 3) (.var 5)) .nil)) (.comp (.name 9) (.rng1 (.con (.int 12))) (.con (.bl true)) (.cmp .eq (.var 5) (.var 9)))) (.seq (.ret (.con (.bl false))) .skip) .skip) (.seq (.set 8 (.ite (.cmp .lt (.var 5) (.con (.int 9))) (.lst (.cons (.con (.bl true)) (.cons (.con (.bl true)) (.cons (.con (.bl false)) (.cons (.con (.bl false)) .nil))))) (.lst (.cons (.con (.bl false)) (.cons (.con (.bl false)) (.cons (.cmp .lt (.var 5) (.con (.int 11))) (.cons (.cmp .eq (.var 5) (.con (.int 11))) .nil))))))) (.seq (.ifS (.cmp .ne (.call 6 (.cons (.ix (.var 3) (.var 5)) .nil)) (.var 8)) (.seq (.ret (.con (.bl false))) .skip) .skip) .skip)))) .skip))))))))
def ib7 : Sx := (.seq (.ifS (.cmp .ne (.call 5 (.cons (.ix (.var 3) (.var 5)) .nil)) (.comp (.name 9) (.rng1 (.con (.int 12))) (.con (.bl true)) (.cmp .eq (.var 5) (.var 9)))) (.seq (.ret (.con (.bl false))) .skip) .skip) (.seq (.set 8 (.ite (.cmp .lt (.var 5) (.con (.int 9))) (.lst (.cons (.con (.bl true)) (.cons (.con (.bl true)) (.cons (.con (.bl false)) (.cons (.con (.bl false)) .nil))))) (.lst (.cons (.con (.bl false)) (.cons (.con (.bl false)) (.cons (.cmp .lt (.var 5) (.con (.int 11))) (.cons (.cmp .eq (.var 5) (.con (.int 11))) .nil))))))) (.seq (.ifS (.cmp .ne (.call 6 (.cons (.ix (.var 3) (.var 5)) .nil)) (.var 8)) (.seq (.ret (.con (.bl false))) .skip) .skip) .skip)))
theorem lk1 {f : Str} {d : D} : List.lookup f (([f] : List Str).zip [d]).reverse = some d := by simp [List.lookup]
theorem lk21 {f g : Str} {d e : D} : List.lookup g (([f, g] : List Str).zip [d, e]).reverse = some e := by simp [List.lookup]
theorem lk22 {d e : D} : List.lookup ("at" : Str) ((["at", "word"] : List Str).zip [d, e]).reverse = some d := by
  have h : (("at" : Str) == ("word" : Str)) = false := by decide +kernel
  simp [List.lookup, h]
variable {isa : Nat → Ic → Option Bool} {k N : Nat} {S : Sto}
def mlD (N : Nat) : List D := [.obj (N + 0), .obj (N + 1), .obj (N + 2), .obj (N + 3), .obj (N + 4), .obj (N + 5), .obj (N + 6), .obj (N + 7), .obj (N + 8), .obj (N + 9), .obj (N + 10), .obj (N + 11)]
theorem ml_at {q : Nat} (h : q < 12) : atI (mlD N) (q : Int) = some (.obj (N + q)) := by
  have z : q = 0 ∨ q = 1 ∨ q = 2 ∨ q = 3 ∨ q = 4 ∨ q = 5 ∨ q = 6 ∨ q = 7 ∨ q = 8 ∨ q = 9 ∨ q = 10 ∨ q = 11 := by omega
  rcases z with rfl | rfl | rfl | rfl | rfl | rfl | rfl | rfl | rfl | rfl | rfl | rfl <;> rfl
theorem eqInt {i j : Int} : opC .eq (.d (.int i)) (.d (.int j)) S = .ok (.bl (i == j)) S := by
  show blR (opEq (.d (.int i)) (.d (.int j)) S) S = _
  have e : ∀ i : Int, pyOv S (.d (.int i)) = some (.int i) := fun _ => rfl
  have sh : ∀ i : Int, SeqAt.shaped (.int i) = true := fun _ => rfl
  unfold opEq
  rw [e, e]
  dsimp only
  rw [if_pos ⟨sh _, sh _⟩]
  have z : PyData.eqv (.int i) (.int j) = (i == j) := by simp [PyData.eqv]
  rw [z]; rfl
theorem inner_ev {q : Nat} (hq : q < 12) (hI : IsaOk isa) {fs : Nat → List (Str × D)} (hM : ∀ q, q < 12 → S[N + q]? = some (some (.exc q (fs q)))) {x0 x1 x2 x4 x6 x7 x8 x9 : Sl} :
    ∃ y8, evS (pxOf isa exf (callL isa exf defs' (k + 1))) ib7 [x0, x1, x2, .val (.lst (mlD N)), x4, .val (.int q), x6, x7, x8, x9] S = .next [x0, x1, x2, .val (.lst (mlD N)), x4, .val (.int q), x6, x7, y8, x9] S := by
  have z : q = 0 ∨ q = 1 ∨ q = 2 ∨ q = 3 ∨ q = 4 ∨ q = 5 ∨ q = 6 ∨ q = 7 ∨ q = 8 ∨ q = 9 ∨ q = 10 ∨ q = 11 := by omega
  have C := classes_ev (isa := isa) (k := k) (hM q hq) (hI.hc q hq)
  have Bs := bases_ev (isa := isa) (k := k) (hM q hq) (hI.hm q hq) (hI.hv q hq) (hI.hl q hq) (hI.hr q hq)
  have cmp : evL (pxOf isa exf (callL isa exf defs' (k + 1))) [x0, x1, x2, .val (.lst (mlD N)), x4, .val (.int q), x6, x7, x8, x9] (.comp (.name 9) (.rng1 (.con (.int 12))) (.con (.bl true)) (.cmp .eq (.var 5) (.var 9))) S = .ok ((intsD 0 12).map fun x => match x with | .int j => .bl ((q : Int) == j) | _ => .non) S := by
    apply el_comp (w := ⟨intsD 0 12, none, false⟩)
    · exact ei_rng1 ev_con (by omega)
    · intro x hx
      obtain ⟨i, hi⟩ := List.getElem?_of_mem hx
      have ex := intsD_get _ _ _ _ hi
      subst ex
      exact ⟨_, rfl, ev_con, ev_cmp (ev_var rfl) (ev_var rfl) eqInt, rfl⟩
    · intro m e; cases e
    · exact Nat.le_of_ble_eq_true rfl
  have due : ∃ L : List D, evE (pxOf isa exf (callL isa exf defs' (k + 1))) [x0, x1, x2, .val (.lst (mlD N)), x4, .val (.int q), x6, x7, x8, x9] (.ite (.cmp .lt (.var 5) (.con (.int 9))) (.lst (.cons (.con (.bl true)) (.cons (.con (.bl true)) (.cons (.con (.bl false)) (.cons (.con (.bl false)) .nil))))) (.lst (.cons (.con (.bl false)) (.cons (.con (.bl false)) (.cons (.cmp .lt (.var 5) (.con (.int 11))) (.cons (.cmp .eq (.var 5) (.con (.int 11))) .nil)))))) S = .ok (.lst L) S ∧
      L = [.bl (decide (q < 9)), .bl (decide (q < 9)), .bl (decide (q = 9 ∨ q = 10)), .bl (decide (q = 11))] := by
    by_cases h9 : q < 9
    · refine ⟨[.bl true, .bl true, .bl false, .bl false], ?_, ?_⟩
      · apply ev_itet (S1 := S)
        · have e : D.bl true = .bl (decide ((q : Int) < 9)) := by rw [decide_eq_true (by omega)]
          rw [e]
          repeat first
            | exact ev_con
            | exact ev_var rfl
            | exact ea_nil
            | exact es_skip
            | apply ev_bin
            | apply ev_cmp
            | apply ev_bi
            | apply ea_cons
            | apply ev_ix
            | apply ev_neg
            | apply ev_tup
            | apply ev_lst
            | apply el_lst
            | apply es_set
            | apply es_ret
            | apply es_retO
            | exact opIx_obj (by first | assumption | (apply get_set; omega)) rfl
            | exact rfl
            | exact okIf_pos (by first | omega | decide)
            | exact ⟨Nat.le_of_ble_eq_true rfl, rfl⟩
        · repeat first
            | exact ev_con
            | exact ev_var rfl
            | exact ea_nil
            | exact es_skip
            | apply ev_bin
            | apply ev_cmp
            | apply ev_bi
            | apply ea_cons
            | apply ev_ix
            | apply ev_neg
            | apply ev_tup
            | apply ev_lst
            | apply el_lst
            | apply es_set
            | apply es_ret
            | apply es_retO
            | exact opIx_obj (by first | assumption | (apply get_set; omega)) rfl
            | exact rfl
            | exact okIf_pos (by first | omega | decide)
            | exact ⟨Nat.le_of_ble_eq_true rfl, rfl⟩
      · rw [decide_eq_true h9, decide_eq_false (by omega : ¬ (q = 9 ∨ q = 10)), decide_eq_false (by omega : ¬ q = 11)]
    · refine ⟨[.bl false, .bl false, .bl (decide ((q : Int) < 11)), .bl ((q : Int) == 11)], ?_, ?_⟩
      · apply ev_itef (S1 := S)
        · have e : D.bl false = .bl (decide ((q : Int) < 9)) := by rw [decide_eq_false (by omega)]
          rw [e]
          repeat first
            | exact ev_con
            | exact ev_var rfl
            | exact ea_nil
            | exact es_skip
            | apply ev_bin
            | apply ev_cmp
            | apply ev_bi
            | apply ea_cons
            | apply ev_ix
            | apply ev_neg
            | apply ev_tup
            | apply ev_lst
            | apply el_lst
            | apply es_set
            | apply es_ret
            | apply es_retO
            | exact opIx_obj (by first | assumption | (apply get_set; omega)) rfl
            | exact rfl
            | exact okIf_pos (by first | omega | decide)
            | exact ⟨Nat.le_of_ble_eq_true rfl, rfl⟩
        · exact ev_lst (ea_cons ev_con (ea_cons ev_con (ea_cons (ev_cmp (ev_var rfl) ev_con rfl) (ea_cons (ev_cmp (ev_var rfl) ev_con eqInt) ea_nil)))) ⟨Nat.le_of_ble_eq_true rfl, rfl⟩
      · have z : q = 9 ∨ q = 10 ∨ q = 11 := by omega
        rcases z with rfl | rfl | rfl <;> rfl
  obtain ⟨L, eL, hL⟩ := due
  refine ⟨.val (.lst L), ?_⟩
  apply es_seq
  · apply es_iff (S1 := S)
    · apply et_of
      apply ev_cmp
      · exact ev_call (ea_cons (ev_ix (ev_var rfl) (ev_var rfl) (opIx_lst (ml_at hq))) ea_nil) rfl C
      · exact ev_of_el cmp rfl
      · have e : ((intsD 0 12).map fun x => match x with | .int j => D.bl ((q : Int) == j) | _ => .non) = [.bl (decide (0 = q)), .bl (decide (1 = q)), .bl (decide (2 = q)), .bl (decide (3 = q)), .bl (decide (4 = q)), .bl (decide (5 = q)), .bl (decide (6 = q)), .bl (decide (7 = q)), .bl (decide (8 = q)), .bl (decide (9 = q)), .bl (decide (10 = q)), .bl (decide (11 = q))] := by
          rcases z with rfl | rfl | rfl | rfl | rfl | rfl | rfl | rfl | rfl | rfl | rfl | rfl <;> rfl
        rw [e]
        exact opNe_lst rfl rfl (Nat.zero_le _)
    · exact es_skip
  · apply es_seq
    · exact es_set eL rfl
    · apply es_seq
      · apply es_iff (S1 := S)
        · apply et_of
          apply ev_cmp
          · exact ev_call (ea_cons (ev_ix (ev_var rfl) (ev_var rfl) (opIx_lst (ml_at hq))) ea_nil) rfl Bs
          · exact ev_var rfl
          · rw [hL]
            exact opNe_lst rfl rfl (Nat.zero_le _)
        · exact es_skip
      · exact es_skip
end Kx
end

section
set_option maxRecDepth 100000
set_option maxHeartbeats 8000000
namespace Kx
open PySem Mx L2
variable {isa : Nat → Ic → Option Bool} {k N : Nat} {S : Sto}
theorem source_all {ns : List Int} {at_ : Nat} (h12 : at_ < 12) (h63 : ns.length ≤ 63) : ∃ a b : Int, callL isa exf defs' (k + 1) 0 [.frl (ns.map D.int), .int at_] S = .ok (.obj S.length) (S ++ [some (O.lst [.int a, .int b, .int 0])]) := by
  by_cases h : at_ < ns.length
  · exact source_ev h h63
  · apply Exists.intro
    apply Exists.intro
    apply call_ok (d := d0) rfl rfl
    apply es_seq
    · apply es_set
      · apply ev_itef (S1 := S)
        · have e : D.bl false = .bl (decide ((at_ : Int) < (ns.map D.int).length)) := by rw [decide_eq_false (by simp; omega)]
          rw [e]
          repeat first
            | exact ev_con
            | exact ev_var rfl
            | exact ea_nil
            | exact es_skip
            | apply ev_bin
            | apply ev_cmp
            | apply ev_bi
            | apply ea_cons
            | apply ev_ix
            | apply ev_neg
            | apply ev_tup
            | apply ev_lst
            | apply el_lst
            | apply es_set
            | apply es_ret
            | apply es_retO
            | exact opIx_obj (by first | assumption | (apply get_set; omega)) rfl
            | exact rfl
            | exact okIf_pos (by first | omega | decide)
            | exact ⟨Nat.le_of_ble_eq_true rfl, rfl⟩
        · repeat first
            | exact ev_con
            | exact ev_var rfl
            | exact ea_nil
            | exact es_skip
            | apply ev_bin
            | apply ev_cmp
            | apply ev_bi
            | apply ea_cons
            | apply ev_ix
            | apply ev_neg
            | apply ev_tup
            | apply ev_lst
            | apply el_lst
            | apply es_set
            | apply es_ret
            | apply es_retO
            | exact opIx_obj (by first | assumption | (apply get_set; omega)) rfl
            | exact rfl
            | exact okIf_pos (by first | omega | decide)
            | exact ⟨Nat.le_of_ble_eq_true rfl, rfl⟩
      · rfl
    · apply es_seq
      · repeat first
          | exact ev_con
          | exact ev_var rfl
          | exact ea_nil
          | exact es_skip
          | apply ev_bin
          | apply ev_cmp
          | apply ev_bi
          | apply ea_cons
          | apply ev_ix
          | apply ev_neg
          | apply ev_tup
          | apply ev_lst
          | apply el_lst
          | apply es_set
          | apply es_ret
          | apply es_retO
          | exact opIx_obj (by first | assumption | (apply get_set; omega)) rfl
          | exact rfl
          | exact okIf_pos (by first | omega | decide)
          | exact ⟨Nat.le_of_ble_eq_true rfl, rfl⟩
      · apply es_seqr
        apply es_retO
        apply el_lst
        · apply ea_cons
          · have e : ∀ v : Int, (if decide (0 < v) = true then D.int v else D.int 0) = D.int (if 0 < v then v else 0) := fun v => by by_cases h : 0 < v <;> simp [h]
            rw [← e]
            apply ev_ite
            repeat first
              | exact ev_con
              | exact ev_var rfl
              | exact ea_nil
              | exact es_skip
              | apply ev_bin
              | apply ev_cmp
              | apply ev_bi
              | apply ea_cons
              | apply ev_ix
              | apply ev_neg
              | apply ev_tup
              | apply ev_lst
              | apply el_lst
              | apply es_set
              | apply es_ret
              | apply es_retO
              | exact opIx_obj (by first | assumption | (apply get_set; omega)) rfl
              | exact rfl
              | exact okIf_pos (by first | omega | decide)
              | exact ⟨Nat.le_of_ble_eq_true rfl, rfl⟩
          · repeat first
              | exact ev_con
              | exact ev_var rfl
              | exact ea_nil
              | exact es_skip
              | apply ev_bin
              | apply ev_cmp
              | apply ev_bi
              | apply ea_cons
              | apply ev_ix
              | apply ev_neg
              | apply ev_tup
              | apply ev_lst
              | apply el_lst
              | apply es_set
              | apply es_ret
              | apply es_retO
              | exact opIx_obj (by first | assumption | (apply get_set; omega)) rfl
              | exact rfl
              | exact okIf_pos (by first | omega | decide)
              | exact ⟨Nat.le_of_ble_eq_true rfl, rfl⟩
        · exact ⟨Nat.le_of_ble_eq_true rfl, rfl⟩
theorem loop_ev (hI : IsaOk isa) {fs : Nat → List (Str × D)} (hM : ∀ q, q < 12 → S[N + q]? = some (some (.exc q (fs q)))) {x0 x1 x2 x4 x5 x6 x7 x8 x9 : Sl} :
    ∃ ρ2, evS (pxOf isa exf (callL isa exf defs' (k + 1))) (.forS (.name 5) (.rng1 (.con (.int 12))) ib7) [x0, x1, x2, .val (.lst (mlD N)), x4, x5, x6, x7, x8, x9] S = .next ρ2 S ∧ ∃ y5 y8, ρ2 = [x0, x1, x2, .val (.lst (mlD N)), x4, y5, x6, x7, y8, x9] := by
  obtain ⟨ρ', S', e1, e2, y5, y8, e3⟩ := forL_inv (still := Itb.Still ⟨intsD 0 12, none, false⟩) (asg := asgT (.name 5)) (body := evS (pxOf isa exf (callL isa exf defs' (k + 1))) ib7)
    (fun _ ρ S' => S' = S ∧ ∃ y5 y8, ρ = [x0, x1, x2, .val (.lst (mlD N)), x4, y5, x6, x7, y8, x9]) (intsD 0 12) 0 [x0, x1, x2, .val (.lst (mlD N)), x4, x5, x6, x7, x8, x9] S ⟨rfl, _, _, rfl⟩
    (fun _ _ _ _ n h => by cases h) fun i d ρ S' hd ⟨eS, y5, y8, eρ⟩ => by
      subst eS
      subst eρ
      have ed := intsD_get _ _ _ _ hd
      have hi : i < 12 := by
        have := (List.getElem?_eq_some_iff.mp hd).1
        rw [intsD_len] at this
        exact this
      subst ed
      rw [Int.zero_add]
      obtain ⟨z8, e⟩ := inner_ev (isa := isa) (k := k) hi hI hM (x0 := x0) (x1 := x1) (x2 := x2) (x4 := x4) (x6 := x6) (x7 := x7) (x8 := y8) (x9 := x9)
      exact ⟨_, rfl, _, _, e, rfl, _, _, rfl⟩
  subst e2
  exact ⟨ρ', es_for (ei_rng1 ev_con (by omega)) rfl e1, y5, y8, e3⟩
theorem told_1 {d : D} (h : plainD d = true) : [d].all plainD = true := by simp [h]
theorem told_2 {d e : D} (h : plainD d = true) (g : plainD e = true) : [d, e].all plainD = true := by simp [h, g]
theorem told_p {d : D} (h : plainD d = true) : [d, d, d, d, d, d, d].all plainD = true := by simp [h]
theorem told_q {d e : D} (h : plainD d = true) (g : plainD e = true) : [d, d, d, d, e].all plainD = true := by simp [h, g]
theorem thing_plain {d : D} (h : Thing d) : plainD d = true := by
  unfold Thing at h
  rcases h with ⟨r, _, _, rfl⟩ | rfl | rfl | rfl | rfl | rfl | rfl | rfl | rfl | rfl <;> rfl
theorem outer_ev {ns : List Int} {at_ : Nat} (h12 : at_ < 12) (h63 : ns.length ≤ 63) (hI : IsaOk isa) {x2 x3 x4 x5 x6 x7 x8 x9 : Sl} :
    ∃ ρ2 S2, evS (pxOf isa exf (callL isa exf defs' 7)) ob7 [.val (.frl (ns.map D.int)), .val (.int at_), x2, x3, x4, x5, x6, x7, x8, x9] S = .next ρ2 S2 ∧ ∃ y1 y2 y3 y4 y5 y6 y7 y8 y9, ρ2 = [.val (.frl (ns.map D.int)), y1, y2, y3, y4, y5, y6, y7, y8, y9] := by
  obtain ⟨a, b, eS⟩ := source_all (isa := isa) (k := 6) (S := S) h12 h63
  obtain ⟨one, a1, c1, e1, t1, p1, l1⟩ := thing_ev (isa := isa) (k := 4) (S := S ++ [some (O.lst [.int a, .int b, .int 0])]) (n := S.length) get_new (Int.le_refl _) (by omega)
  have hS1 : ((S ++ [some (O.lst [.int a, .int b, .int 0])]).set S.length (some (O.lst [.int a1, .int b, .int c1])))[S.length]? = some (some (O.lst [.int a1, .int b, .int c1])) := get_set (by simp)
  obtain ⟨two, a2, c2, e2, t2, p2, l2⟩ := thing_ev (isa := isa) (k := 4) hS1 p1 (by omega)
  rw [List.set_set] at e2
  generalize hZ : (S ++ [some (O.lst [.int a, .int b, .int 0])]).set S.length (some (O.lst [.int a2, .int b, .int c2])) = Z at e2
  obtain ⟨N, hN⟩ : ∃ N, Z.length = N := ⟨_, rfl⟩
  obtain ⟨pp, ep, gp⟩ := thing_good t1
  obtain ⟨qq, eq, gq⟩ := thing_good t2
  have pl : plainD one = true := thing_plain t1
  have pl2 : plainD two = true := thing_plain t2
  have told : toPyA [one, one, one, one, one, one, one, one, one, one, one, two] = some [pp, pp, pp, pp, pp, pp, pp, pp, pp, pp, pp, qq] := by simp only [toPyA, ep, eq]
  have good : ∀ p ∈ [pp, pp, pp, pp, pp, pp, pp, pp, pp, pp, pp, qq], Good p := by
    intro p hp
    simp only [List.mem_cons, List.not_mem_nil, or_false] at hp
    rcases hp with rfl | rfl | rfl | rfl | rfl | rfl | rfl | rfl | rfl | rfl | rfl | rfl <;> assumption
  obtain ⟨s, hs⟩ := repr_ok told good (Nat.le_of_ble_eq_true rfl)
  have e2 : callL isa exf defs' 7 4 [.obj S.length] ((S ++ [some (O.lst [.int a, .int b, .int 0])]).set S.length (some (O.lst [.int a1, .int b, .int c1]))) = .ok two (Z ++ []) := by rw [List.append_nil]; exact e2
  have hM : ∀ q, q < 12 → (Z ++ ([some (.exc 0 [("line", one)]), some (.exc 1 [("name", one)]), some (.exc 2 [("request", one)]), some (.exc 3 [("at", one)]), some (.exc 4 [("at", one)]), some (.exc 5 [("at", one)]), some (.exc 6 [("demand", one)]), some (.exc 7 []), some (.exc 8 [("what", one)]), some (.exc 9 [("server", one)]), some (.exc 10 [("number", one)]), some (.exc 11 [("word", two), ("at", one)])] : Sto))[N + q]? = some (some (.exc q (match q with
    | 0 => [("line", one)] | 1 => [("name", one)] | 2 => [("request", one)] | 3 => [("at", one)] | 4 => [("at", one)] | 5 => [("at", one)] | 6 => [("demand", one)] | 7 => [] | 8 => [("what", one)] | 9 => [("server", one)] | 10 => [("number", one)]
    | _ => [("word", two), ("at", one)]))) := fun q hq => by
    refine get_at hN ?_
    have z : q = 0 ∨ q = 1 ∨ q = 2 ∨ q = 3 ∨ q = 4 ∨ q = 5 ∨ q = 6 ∨ q = 7 ∨ q = 8 ∨ q = 9 ∨ q = 10 ∨ q = 11 := by omega
    rcases z with rfl | rfl | rfl | rfl | rfl | rfl | rfl | rfl | rfl | rfl | rfl | rfl <;> rfl
  obtain ⟨ρ2, ef, y5, y8, ey⟩ := loop_ev (isa := isa) (k := 6) hI hM (x0 := .val (.frl (ns.map D.int))) (x1 := .val (.int at_)) (x2 := .val (.obj S.length)) (x4 := .val (.lst [one, one, one, one, one, one, one, one, one, one, one, two])) (x5 := x5) (x6 := .val one) (x7 := .val two) (x8 := x8) (x9 := x9)
  refine ⟨ρ2, Z ++ ([some (.exc 0 [("line", one)]), some (.exc 1 [("name", one)]), some (.exc 2 [("request", one)]), some (.exc 3 [("at", one)]), some (.exc 4 [("at", one)]), some (.exc 5 [("at", one)]), some (.exc 6 [("demand", one)]), some (.exc 7 []), some (.exc 8 [("what", one)]), some (.exc 9 [("server", one)]), some (.exc 10 [("number", one)]), some (.exc 11 [("word", two), ("at", one)])] : Sto), ?left, _, _, _, _, _, _, _, _, _, ey⟩
  case left =>
    apply es_seq
    · exact es_set (ev_call (ea_cons (ev_var rfl) (ea_cons (ev_var rfl) ea_nil)) rfl eS) rfl
    apply es_seq
    · exact es_par (ea_cons (ev_call (ea_cons (ev_var rfl) ea_nil) rfl e1) (ea_cons (ev_call (ea_cons (ev_var rfl) ea_nil) rfl e2) ea_nil)) ⟨pl, pl2⟩
    apply es_seq
    · apply es_set
      · apply ev_lst
        · apply ea_cons
          · exact ev_mkN hN (ea_cons (ev_var rfl) ea_nil) ⟨told_1 pl, rfl⟩
          · apply ea_cons
            · exact ev_mkN hN (ea_cons (ev_var rfl) ea_nil) ⟨told_1 pl, rfl⟩
            · apply ea_cons
              · exact ev_mkN hN (ea_cons (ev_var rfl) ea_nil) ⟨told_1 pl, rfl⟩
              · apply ea_cons
                · exact ev_mkN hN (ea_cons (ev_var rfl) ea_nil) ⟨told_1 pl, rfl⟩
                · apply ea_cons
                  · exact ev_mkN hN (ea_cons (ev_var rfl) ea_nil) ⟨told_1 pl, rfl⟩
                  · apply ea_cons
                    · exact ev_mkN hN (ea_cons (ev_var rfl) ea_nil) ⟨told_1 pl, rfl⟩
                    · apply ea_cons
                      · exact ev_mkN hN (ea_cons (ev_var rfl) ea_nil) ⟨told_1 pl, rfl⟩
                      · exact ea_nil
        · exact ⟨Nat.le_of_ble_eq_true rfl, rfl⟩
      · rfl
    apply es_seq
    · apply es_set
      · apply ev_bin
        · exact ev_var rfl
        · apply ev_lst
          · apply ea_cons
            · exact ev_mkN hN ea_nil ⟨rfl, rfl⟩
            · apply ea_cons
              · exact ev_mkN hN (ea_cons (ev_var rfl) ea_nil) ⟨told_1 pl, rfl⟩
              · apply ea_cons
                · exact ev_mkN hN (ea_cons (ev_var rfl) ea_nil) ⟨told_1 pl, rfl⟩
                · apply ea_cons
                  · exact ev_mkN hN (ea_cons (ev_var rfl) ea_nil) ⟨told_1 pl, rfl⟩
                  · apply ea_cons
                    · exact ev_mkN hN (ea_cons (ev_var rfl) (ea_cons (ev_var rfl) ea_nil)) ⟨told_2 pl pl2, rfl⟩
                    · exact ea_nil
          · exact ⟨Nat.le_of_ble_eq_true rfl, rfl⟩
        · exact okIf_pos (Nat.le_of_ble_eq_true rfl)
      · rfl
    apply es_seq
    · apply es_set
      · apply ev_lst
        · apply ea_cons
          · exact ev_xfl (ev_ix (ev_var rfl) ev_con (opIx_lst rfl)) (opXfl_ok (get_at hN rfl) lk1)
          · apply ea_cons
            · exact ev_xfl (ev_ix (ev_var rfl) ev_con (opIx_lst rfl)) (opXfl_ok (get_at hN rfl) lk1)
            · apply ea_cons
              · exact ev_xfl (ev_ix (ev_var rfl) ev_con (opIx_lst rfl)) (opXfl_ok (get_at hN rfl) lk1)
              · apply ea_cons
                · exact ev_xfl (ev_ix (ev_var rfl) ev_con (opIx_lst rfl)) (opXfl_ok (get_at hN rfl) lk1)
                · apply ea_cons
                  · exact ev_xfl (ev_ix (ev_var rfl) ev_con (opIx_lst rfl)) (opXfl_ok (get_at hN rfl) lk1)
                  · apply ea_cons
                    · exact ev_xfl (ev_ix (ev_var rfl) ev_con (opIx_lst rfl)) (opXfl_ok (get_at hN rfl) lk1)
                    · apply ea_cons
                      · exact ev_xfl (ev_ix (ev_var rfl) ev_con (opIx_lst rfl)) (opXfl_ok (get_at hN rfl) lk1)
                      · exact ea_nil
        · exact ⟨Nat.le_of_ble_eq_true rfl, told_p pl⟩
      · rfl
    apply es_seq
    · apply es_set
      · apply ev_bin
        · exact ev_var rfl
        · apply ev_lst
          · apply ea_cons
            · exact ev_xfl (ev_ix (ev_var rfl) ev_con (opIx_lst rfl)) (opXfl_ok (get_at hN rfl) lk1)
            · apply ea_cons
              · exact ev_xfl (ev_ix (ev_var rfl) ev_con (opIx_lst rfl)) (opXfl_ok (get_at hN rfl) lk1)
              · apply ea_cons
                · exact ev_xfl (ev_ix (ev_var rfl) ev_con (opIx_lst rfl)) (opXfl_ok (get_at hN rfl) lk1)
                · apply ea_cons
                  · exact ev_xfl (ev_ix (ev_var rfl) ev_con (opIx_lst rfl)) (opXfl_ok (get_at hN rfl) lk22)
                  · apply ea_cons
                    · exact ev_xfl (ev_ix (ev_var rfl) ev_con (opIx_lst rfl)) (opXfl_ok (get_at hN rfl) lk21)
                    · exact ea_nil
          · exact ⟨Nat.le_of_ble_eq_true rfl, told_q pl pl2⟩
        · exact okIf_pos (Nat.le_of_ble_eq_true rfl)
      · rfl
    apply es_seq
    · apply es_iff
      · apply et_of
        apply ev_cmp
        · exact ev_bi (ea_cons (ev_var rfl) ea_nil) (hs _)
        · exact ev_bi (ea_cons (ev_bin (ev_bin (ev_lst (ea_cons (ev_var rfl) ea_nil) ⟨Nat.le_of_ble_eq_true rfl, told_1 pl⟩) ev_con (okIf_pos ⟨by decide, by decide, Nat.le_of_ble_eq_true rfl⟩)) (ev_lst (ea_cons (ev_var rfl) ea_nil) ⟨Nat.le_of_ble_eq_true rfl, told_1 pl2⟩) (okIf_pos (Nat.le_of_ble_eq_true rfl))) ea_nil) (hs _)
        · exact opNe_str
      · exact es_skip
    exact es_seq ef es_skip
end Kx
end

section
set_option maxRecDepth 100000
set_option maxHeartbeats 8000000
namespace Kx
open PySem Mx L2
theorem law_ev {isa : Nat → Ic → Option Bool} (hI : IsaOk isa) {ns : List Int} (h63 : ns.length ≤ 63) : ∃ S', callL isa exf defs' 8 7 [.frl (ns.map D.int)] [] = .ok (.bl true) S' := by
  generalize hv : (if (if ((ns.map D.int).length : Int) < 12 then ((ns.map D.int).length : Int) else 12) > 1 then if ((ns.map D.int).length : Int) < 12 then ((ns.map D.int).length : Int) else 12 else 1) = v
  have hv2 : 1 ≤ v ∧ v ≤ 12 := by rw [← hv]; split <;> split <;> omega
  have sz := size_ev (isa := isa) (k := 6) (S := []) (xs := ns.map D.int) (m := 12)
  rw [hv] at sz
  obtain ⟨ρ', S', e1, _⟩ := forL_inv (still := Itb.Still ⟨intsD 0 v.toNat, none, false⟩) (asg := asgT (.name 1)) (body := evS (pxOf isa exf (callL isa exf defs' 7)) ob7)
    (fun _ ρ _ => ∃ y1 y2 y3 y4 y5 y6 y7 y8 y9, ρ = [.val (.frl (ns.map D.int)), y1, y2, y3, y4, y5, y6, y7, y8, y9]) (intsD 0 v.toNat) 0 (env0 d7 [.frl (ns.map D.int)]) [] ⟨_, _, _, _, _, _, _, _, _, rfl⟩
    (fun _ _ _ _ n h => by cases h) fun i d ρ S' hd ⟨y1, y2, y3, y4, y5, y6, y7, y8, y9, eρ⟩ => by
      subst eρ
      have ed := intsD_get _ _ _ _ hd
      have hi : i < 12 := by
        have := (List.getElem?_eq_some_iff.mp hd).1
        rw [intsD_len] at this
        omega
      subst ed
      rw [Int.zero_add]
      obtain ⟨ρ2, S2, e, z⟩ := outer_ev (isa := isa) (S := S') hi h63 hI (x2 := y2) (x3 := y3) (x4 := y4) (x5 := y5) (x6 := y6) (x7 := y7) (x8 := y8) (x9 := y9)
      exact ⟨_, rfl, _, _, e, z⟩
  refine ⟨S', ?_⟩
  apply call_ok (d := d7) rfl rfl
  apply es_seq
  · exact es_for (ei_rng1 (ev_call (ea_cons (ev_var rfl) (ea_cons ev_con ea_nil)) rfl sz) (by omega)) rfl e1
  · exact es_seqr (es_ret ev_con)
theorem isa_ok : IsaOk (isaOf isaT) where
  hc := by decide +kernel
  hm := by decide +kernel
  hv := by decide +kernel
  hl := by decide +kernel
  hr := by decide +kernel
end Kx
theorem PySem.Challenge.cw_mixedanswers_k96_errors_made_holds : PySem.Challenge.rw_mixedanswers_k96_errors_made.Holds :=
  k96_from fun ns h _ => Kx.law_ev Kx.isa_ok h
end
