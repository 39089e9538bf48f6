import PyProof.Rows.All
import Wide.All
import OpenK.AllK
import Wide.FinOn
import HandS.ForMost
import HandS.Exc
import HandS.ExcSuper
import HandS.Gcd
import HandS.Flow
import HandS.Rev
import HandS.Sort
import HandS.SortKw
import HandS.Lambda
import HandS.IsInst
import HandS.TupAny
import HandS.TupMul
import HandS.TupLe
import HandS.Conv
import HandS.ForExc
import HandS.Defaults
import HandS.SortInts
import HandS.Ends
import PySem.Challenge.RW_hourpicks_k54_whole_numbers_of_lots_and
set_option Elab.async false
set_option linter.all false
set_option maxRecDepth 100000
/-! PL1: plain data D for values, its relation to the abstract heap, slots that hold a value or own a list, and readings given by plain functions. -/
namespace PL
open PySem PySem.Spec PyProof.Rows L2

/-- plain data -/
inductive D where
  | non | bl (b : Bool) | int (i : Int) | str (x : Str) | ty (n : String) | ref (a : Addr)
  | tup (xs : List D) | lst (xs : List D)
  /-- the script, never written -/
  | scr (ns : List Int)

/-- a list of the written part -/
def KList (K : PySem.W.Frag) (a : Addr) (xs : List V) : Prop := ∃ (o : Obj) (its : Array Value) (n : Nat), K.lookup a = some o ∧ o.cls = .type "list" ∧ o.dict = none ∧ o.data = .seq its n ∧ its.size ≤ sizeLine ∧ Vals xs its.toList
mutual
/-- v bears the data d; none of the addresses on the way is in N -/
def Rep (K : PySem.W.Frag) (H : Hp) (N : Addr → Prop) : D → V → Prop
  | .non, v => v = .non
  | .bl b, v => v = .bl b
  | .int i, v => v = .int i
  | .str x, v => v = .str x
  | .ty n, v => v = .ty n
  | .ref a, v => v = .ref a
  | .tup ds, v => ∃ a vs, v = .ref a ∧ ¬ N a ∧ H a = some (.tup vs) ∧ RepL K H N ds vs
  | .lst ds, v => ∃ a vs, v = .ref a ∧ ¬ N a ∧ H a = some (.lst vs) ∧ RepL K H N ds vs
  | .scr ns, v => ∃ a, v = .ref a ∧ ((¬ N a ∧ ∃ o, H a = some (.frz o (.lst (ns.map V.int)))) ∨ KList K a (ns.map V.int))
def RepL (K : PySem.W.Frag) (H : Hp) (N : Addr → Prop) : List D → List V → Prop
  | [], vs => vs = []
  | d :: ds, vs => ∃ v r, vs = v :: r ∧ Rep K H N d v ∧ RepL K H N ds r
end

section
variable {K : PySem.W.Frag} {H H' : Hp} {N N' : Addr → Prop}
mutual
theorem Rep.mono (f : ∀ a o, H a = some o → ¬ N a → H' a = some o) (g : ∀ a, N' a → N a) : ∀ (d : D) (v : V), Rep K H N d v → Rep K H' N' d v
  | .non, v, h => h
  | .bl b, v, h => h
  | .int i, v, h => h
  | .str x, v, h => h
  | .ty n, v, h => h
  | .ref a, v, h => h
  | .tup ds, v, h => by
    obtain ⟨a, vs, e, n, s, r⟩ := h
    exact ⟨a, vs, e, fun z => n (g a z), f _ _ s n, RepL.mono f g ds vs r⟩
  | .lst ds, v, h => by
    obtain ⟨a, vs, e, n, s, r⟩ := h
    exact ⟨a, vs, e, fun z => n (g a z), f _ _ s n, RepL.mono f g ds vs r⟩
  | .scr ns, v, h => by
    obtain ⟨a, e, ⟨n, o, s⟩ | s⟩ := h
    · exact ⟨a, e, .inl ⟨fun z => n (g a z), o, f _ _ s n⟩⟩
    · exact ⟨a, e, .inr s⟩
theorem RepL.mono (f : ∀ a o, H a = some o → ¬ N a → H' a = some o) (g : ∀ a, N' a → N a) : ∀ (ds : List D) (vs : List V), RepL K H N ds vs → RepL K H' N' ds vs
  | [], vs, h => h
  | d :: ds, vs, h => by
    obtain ⟨v, r, e, h1, h2⟩ := h
    exact ⟨v, r, e, Rep.mono f g d v h1, RepL.mono f g ds r h2⟩
end
mutual
/-- an address that is not tracked is in no data -/
theorem Rep.addN {p : Addr} (hp : H p = none) : ∀ (d : D) (v : V), Rep K H N d v → Rep K H (fun a => N a ∨ a = p) d v
  | .non, v, h => h
  | .bl b, v, h => h
  | .int i, v, h => h
  | .str x, v, h => h
  | .ty n, v, h => h
  | .ref a, v, h => h
  | .tup ds, v, h => by
    obtain ⟨a, vs, e, n, s, r⟩ := h
    exact ⟨a, vs, e, fun z => z.elim n (ne_of_none s hp), s, RepL.addN hp ds vs r⟩
  | .lst ds, v, h => by
    obtain ⟨a, vs, e, n, s, r⟩ := h
    exact ⟨a, vs, e, fun z => z.elim n (ne_of_none s hp), s, RepL.addN hp ds vs r⟩
  | .scr ns, v, h => by
    obtain ⟨a, e, ⟨n, o, s⟩ | s⟩ := h
    · exact ⟨a, e, .inl ⟨fun z => z.elim n (ne_of_none s hp), o, s⟩⟩
    · exact ⟨a, e, .inr s⟩
theorem RepL.addN {p : Addr} (hp : H p = none) : ∀ (ds : List D) (vs : List V), RepL K H N ds vs → RepL K H (fun a => N a ∨ a = p) ds vs
  | [], vs, h => h
  | d :: ds, vs, h => by
    obtain ⟨v, r, e, h1, h2⟩ := h
    exact ⟨v, r, e, Rep.addN hp d v h1, RepL.addN hp ds r h2⟩
end
theorem RepL.length : ∀ {ds : List D} {vs : List V}, RepL K H N ds vs → vs.length = ds.length
  | [], vs, h => by have h : vs = [] := h; subst h; rfl
  | d :: ds, vs, h => by
    obtain ⟨v, r, rfl, _, h2⟩ := h
    rw [List.length_cons, List.length_cons, RepL.length h2]
theorem RepL.get : ∀ {ds : List D} {vs : List V} {i : Nat} {d : D}, RepL K H N ds vs → ds[i]? = some d → ∃ v, vs[i]? = some v ∧ Rep K H N d v
  | [], _, _, _, _, e => by simp at e
  | d :: ds, vs, 0, d', h, e => by
    obtain ⟨v, r, rfl, h1, _⟩ := h
    have e : d = d' := Option.some.inj e
    subst e
    exact ⟨v, rfl, h1⟩
  | d :: ds, vs, i + 1, d', h, e => by
    obtain ⟨v, r, rfl, _, h2⟩ := h
    obtain ⟨u, h3, h4⟩ := RepL.get (i := i) h2 (by simpa using e)
    exact ⟨u, by simpa using h3, h4⟩
theorem RepL.get' : ∀ {ds : List D} {vs : List V} {i : Nat} {v : V}, RepL K H N ds vs → vs[i]? = some v → ∃ d, ds[i]? = some d ∧ Rep K H N d v
  | [], vs, _, _, h, e => by have h : vs = [] := h; subst h; simp at e
  | d :: ds, vs, 0, v', h, e => by
    obtain ⟨v, r, rfl, h1, _⟩ := h
    have e : v = v' := Option.some.inj e
    subst e
    exact ⟨d, rfl, h1⟩
  | d :: ds, vs, i + 1, v', h, e => by
    obtain ⟨v, r, rfl, _, h2⟩ := h
    obtain ⟨u, h3, h4⟩ := RepL.get' (i := i) h2 (by simpa using e)
    exact ⟨u, by simpa using h3, h4⟩
theorem RepL.append : ∀ {ds es : List D} {vs us : List V}, RepL K H N ds vs → RepL K H N es us → RepL K H N (ds ++ es) (vs ++ us)
  | [], _, vs, _, h, q => by have h : vs = [] := h; subst h; exact q
  | d :: ds, _, vs, _, h, q => by
    obtain ⟨v, r, rfl, h1, h2⟩ := h
    exact ⟨v, _, rfl, h1, RepL.append h2 q⟩
theorem RepL.set {d : D} {v : V} (hv : Rep K H N d v) : ∀ {ds : List D} {vs : List V} (i : Nat), RepL K H N ds vs → RepL K H N (ds.set i d) (vs.set i v)
  | [], vs, _, h => by have h : vs = [] := h; subst h; exact rfl
  | d' :: ds, vs, 0, h => by
    obtain ⟨v', r, rfl, _, h2⟩ := h
    exact ⟨v, r, rfl, hv, h2⟩
  | d' :: ds, vs, i + 1, h => by
    obtain ⟨v', r, rfl, h1, h2⟩ := h
    exact ⟨v', _, rfl, h1, RepL.set hv i h2⟩
theorem RepL.take : ∀ {ds : List D} {vs : List V} (n : Nat), RepL K H N ds vs → RepL K H N (ds.take n) (vs.take n)
  | _, _, 0, _ => by simp only [List.take_zero]; exact rfl
  | [], vs, n + 1, h => by have h : vs = [] := h; subst h; exact rfl
  | d' :: ds, vs, n + 1, h => by
    obtain ⟨v', r, rfl, h1, h2⟩ := h
    exact ⟨v', _, rfl, h1, RepL.take n h2⟩
theorem RepL.drop : ∀ {ds : List D} {vs : List V} (n : Nat), RepL K H N ds vs → RepL K H N (ds.drop n) (vs.drop n)
  | _, _, 0, h => h
  | [], vs, n + 1, h => by have h : vs = [] := h; subst h; exact rfl
  | d' :: ds, vs, n + 1, h => by
    obtain ⟨v', r, rfl, h1, h2⟩ := h
    exact RepL.drop n h2
theorem RepL.ints : ∀ {ns : List Int} {vs : List V}, RepL K H N (ns.map D.int) vs → vs = ns.map V.int
  | [], vs, h => h
  | n :: ns, vs, h => by
    obtain ⟨v, r, rfl, h1, h2⟩ := h
    have h1 : v = .int n := h1
    rw [h1, RepL.ints h2]
    rfl
theorem RepL.of_ints : ∀ (ns : List Int), RepL K H N (ns.map D.int) (ns.map V.int)
  | [] => rfl
  | n :: ns => ⟨_, _, rfl, rfl, RepL.of_ints ns⟩
end

/-! ### slots -/
/-- a slot: nothing is told of it; it bears a value; it holds a list that nothing else holds (b: it came as an argument) -/
inductive SV where
  | un | val (d : D) | own (b : Bool) (xs : List D)
/-- an expression's outcome: a value; a new list that nothing else holds -/
inductive RV where
  | val (d : D) | own (xs : List D)
def RV.d : RV → D
  | .val d => d
  | .own xs => .lst xs
abbrev PSt := List SV

inductive Res (α : Type) where
  | ok (a : α) | exc (c : Str) (x : Option (Str × D)) | bad
def Res.bind {α β : Type} (o : Res α) (f : α → Res β) : Res β := match o with
  | .ok a => f a
  | .exc c x => .exc c x
  | .bad => .bad
theorem nrfl {α : Sort _} {a b : α} (h : a = b) : a = b := h
@[simp] theorem Res.bind_ok {α β : Type} (a : α) (f : α → Res β) : (Res.ok a).bind f = f a := nrfl rfl
@[simp] theorem Res.bind_exc {α β : Type} (c : Str) (x : Option (Str × D)) (f : α → Res β) : (Res.exc c x : Res α).bind f = .exc c x := nrfl rfl
@[simp] theorem Res.bind_bad {α β : Type} (f : α → Res β) : (Res.bad : Res α).bind f = .bad := nrfl rfl

/-- the addresses of owned lists -/
def OwnA (ow : Nat → Addr) (σd : PSt) (a : Addr) : Prop := ∃ i b xs, σd[i]? = some (SV.own b xs) ∧ ow i = a
def NN (B : Addr → Prop) (ow : Nat → Addr) (σd : PSt) (a : Addr) : Prop := B a ∨ OwnA ow σd a
/-- B and p -/
def Bp (B : Addr → Prop) (p : Addr) (a : Addr) : Prop := B a ∨ a = p

structure StRel (K : PySem.W.Frag) (B : Addr → Prop) (ow : Nat → Addr) (σd : PSt) (σ : L2.St) (H : Hp) : Prop where
  len : σd.length = σ.length
  val : ∀ (i : Nat) (d : D), σd[i]? = some (SV.val d) → ∃ v, σ[i]? = some (some v) ∧ Rep K H (NN B ow σd) d v
  own : ∀ (i : Nat) (b : Bool) (xs : List D), σd[i]? = some (SV.own b xs) → ∃ vs, σ[i]? = some (some (.ref (ow i))) ∧ H (ow i) = some (.lst vs) ∧ RepL K H (NN B ow σd) xs vs
  inj : ∀ (i j : Nat) (b b' : Bool) (xs ys : List D), σd[i]? = some (SV.own b xs) → σd[j]? = some (SV.own b' ys) → ow i = ow j → i = j
  nb : ∀ (i : Nat) (b : Bool) (xs : List D), σd[i]? = some (SV.own b xs) → ¬ B (ow i)
  bt : ∀ a, B a → ∃ o, H a = some o

/-- all that stood but the owned lists stands; what is tracked stays so -/
def Fr0 (ow : Nat → Addr) (σd : PSt) (H H' : Hp) : Prop := ∀ (a : Addr) (o : HO), H a = some o → (∃ o', H' a = some o') ∧ (¬ OwnA ow σd a → H' a = some o)
/-- the owned ones are among those that were -/
def SubO (σd σd' : PSt) : Prop := ∀ (i : Nat) (b : Bool) (xs : List D), σd'[i]? = some (SV.own b xs) → ∃ ys, σd[i]? = some (SV.own b ys)
theorem SubO.refl (σd : PSt) : SubO σd σd := fun (_ : Nat) (_ : Bool) xs h => ⟨xs, h⟩
theorem SubO.trans {a b c : PSt} (h : SubO a b) (q : SubO b c) : SubO a c := fun (i : Nat) (t : Bool) xs e => by
  obtain ⟨ys, e1⟩ := q i t xs e
  exact h i t ys e1
theorem SubO.ownA {σd σd' : PSt} {ow : Nat → Addr} (s : SubO σd σd') {a : Addr} (h : OwnA ow σd' a) : OwnA ow σd a := by
  obtain ⟨i, b, xs, e, q⟩ := h
  obtain ⟨ys, e1⟩ := s i b xs e
  exact ⟨i, b, ys, e1, q⟩
theorem SubO.nn {σd σd' : PSt} {ow : Nat → Addr} {B : Addr → Prop} (s : SubO σd σd') {a : Addr} (h : NN B ow σd' a) : NN B ow σd a := h.elim .inl fun z => .inr (s.ownA z)
theorem Fr0.refl (ow : Nat → Addr) (σd : PSt) (H : Hp) : Fr0 ow σd H H := fun (_ : Addr) o h => ⟨⟨o, h⟩, fun _ => h⟩
theorem Fr0.trans {ow : Nat → Addr} {σd σd' : PSt} {H H1 H2 : Hp} (a : Fr0 ow σd H H1) (s : SubO σd σd') (b : Fr0 ow σd' H1 H2) : Fr0 ow σd H H2 := fun x o h => by
  obtain ⟨⟨o1, h1⟩, h2⟩ := a x o h
  exact ⟨(b x o1 h1).1, fun n => (b x o (h2 n)).2 fun z => n (s.ownA z)⟩
theorem Fr0.at {ow : Nat → Addr} {σd : PSt} {H H1 : Hp} (f : Fr0 ow σd H H1) {a : Addr} {o : HO} (h : H a = some o) (n : ¬ OwnA ow σd a) : H1 a = some o := (f a o h).2 n
theorem Fr0.free {ow : Nat → Addr} {σd : PSt} {H H1 : Hp} (f : Fr0 ow σd H H1) {p : Addr} (h : H1 p = none) : H p = none := by
  cases q : H p with
  | none => rfl
  | some o =>
    obtain ⟨⟨o1, h1⟩, _⟩ := f p o q
    rw [h] at h1
    cases h1
theorem Fr0.new {ow : Nat → Addr} {σd : PSt} {H : Hp} {p : Addr} {u : HO} (h : H p = none) : Fr0 ow σd H (upd H p u) := fun a o e => by
  rw [upd_ne (ne_of_none e h)]
  exact ⟨⟨o, e⟩, fun _ => e⟩

/-- kinds of outcomes: a of Lean's, v of the run's -/
class Kd (α : Type) (ρ : outParam Type) where
  fin : PySem.W.Frag → (Addr → Prop) → (Nat → Addr) → L2.St → Hp → α → PSt → ρ → Hp → Prop
  up : ∀ {K : PySem.W.Frag} {B : Addr → Prop} {ow : Nat → Addr} {σ : L2.St} {H H1 : Hp} {a : α} {σd' : PSt} {v : ρ} {H' : Hp}, (∀ p, H1 p = none → H p = none) → fin K B ow σ H1 a σd' v H' → fin K B ow σ H a σd' v H'
  st : ∀ {K : PySem.W.Frag} {B : Addr → Prop} {ow : Nat → Addr} {σ : L2.St} {H : Hp} {a : α} {σd' : PSt} {v : ρ} {H' : Hp}, fin K B ow σ H a σd' v H' → StRel K B ow σd' σ H'
theorem nn_bp {B : Addr → Prop} {ow : Nat → Addr} {σd : PSt} {p a : Addr} (h : NN B ow σd a) : NN (Bp B p) ow σd a := h.elim (fun z => .inl (.inl z)) .inr
theorem StRel.weak {K : PySem.W.Frag} {B B' : Addr → Prop} {ow : Nat → Addr} {σd : PSt} {σ : L2.St} {H : Hp} (h : StRel K B ow σd σ H) (g : ∀ a, B' a → B a) : StRel K B' ow σd σ H := by
  have gn : ∀ a, NN B' ow σd a → NN B ow σd a := fun a z => z.elim (fun z => .inl (g a z)) .inr
  refine ⟨h.len, fun i d e => ?_, fun i b xs e => ?_, h.inj, fun i b xs e z => h.nb i b xs e (g _ z), fun a z => h.bt a (g a z)⟩
  · obtain ⟨v, e1, r⟩ := h.val i d e
    exact ⟨v, e1, r.mono (fun _ _ h _ => h) gn⟩
  · obtain ⟨vs, e1, e2, r⟩ := h.own i b xs e
    exact ⟨vs, e1, e2, RepL.mono (fun _ _ h _ => h) gn _ _ r⟩
def finRV (K : PySem.W.Frag) (B : Addr → Prop) (ow : Nat → Addr) (σ : L2.St) (H : Hp) (r : RV) (σd' : PSt) (v : V) (H' : Hp) : Prop :=
  match r with
  | .val d => StRel K B ow σd' σ H' ∧ Rep K H' (NN B ow σd') d v
  | .own xs => ∃ p vs, v = .ref p ∧ H p = none ∧ ¬ B p ∧ H' p = some (.lst vs) ∧ StRel K (Bp B p) ow σd' σ H' ∧ RepL K H' (NN (Bp B p) ow σd') xs vs
instance : Kd RV V where
  fin := finRV
  up := fun {K B ow σ H H1 a σd' v H'} f h => by
    cases a with
    | val d => exact h
    | own xs =>
      obtain ⟨p, vs, e, h0, hb, h1, S, q⟩ := h
      exact ⟨p, vs, e, f p h0, hb, h1, S, q⟩
  st := fun {K B ow σ H a σd' v H'} h => by
    cases a with
    | val d => exact h.1
    | own xs =>
      obtain ⟨p, vs, e, h0, hb, h1, S, q⟩ := h
      exact S.weak fun a z => .inl z
instance : Kd D V where
  fin := fun K B ow σ H d σd' v H' => StRel K B ow σd' σ H' ∧ Rep K H' (NN B ow σd') d v
  up := fun _ h => h
  st := fun h => h.1
instance : Kd (List D) (List V) where
  fin := fun K B ow σ H ds σd' vs H' => StRel K B ow σd' σ H' ∧ RepL K H' (NN B ow σd') ds vs
  up := fun _ h => h
  st := fun h => h.1
instance : Kd Bool Bool where
  fin := fun K B ow σ H b σd' c H' => StRel K B ow σd' σ H' ∧ c = b
  up := fun _ h => h
  st := fun h => h.1
instance : Kd (Option Int) (Option Int) where
  fin := fun K B ow σ H b σd' c H' => StRel K B ow σd' σ H' ∧ c = b
  up := fun _ h => h
  st := fun h => h.1

section
variable {α ρ : Type} [Kd α ρ]
def Post (K : PySem.W.Frag) (B : Addr → Prop) (ow : Nat → Addr) (σd : PSt) (σ : L2.St) (H : Hp) (a : α) (σd' : PSt) (v : ρ) (H' : Hp) : Prop :=
  Fr0 ow σd H H' ∧ SubO σd σd' ∧ Kd.fin K B ow σ H a σd' v H'
/-- behind an exception of the class named c: its own dict holds x -/
def XPost (K : PySem.W.Frag) (mg : Str → Option Value) (B : Addr → Prop) (ow : Nat → Addr) (σd : PSt) (H : Hp) (c : Str) (x : Option (Str × D)) (cls : Value) (dd : Option Addr) (H' : Hp) : Prop :=
  Fr0 ow σd H H' ∧ mg c = some cls ∧ match x with
    | none => True
    | some (f, d) => ∃ a v, dd = some a ∧ H' a = some (.xd [(f, v)]) ∧ ∃ N, (∀ a, B a → N a) ∧ Rep K H' N d v
/-- how an outcome meets the wish Q -/
def Go (K : PySem.W.Frag) (mg : Str → Option Value) (W : WX) (B : Addr → Prop) (ow : Nat → Addr) (σd : PSt) (σ : L2.St) (H : Hp) (o : Res (α × PSt)) (Q : ρ → Hp → Prop) : Prop :=
  match o with
  | .ok p => ∀ v H', Post K B ow σd σ H p.1 p.2 v H' → Q v H'
  | .exc c x => ∀ cls dd σ' H', XPost K mg B ow σd H c x cls dd H' → W cls dd σ' H'
  | .bad => False
/-- a reading by a plain function -/
def rd (K : PySem.W.Frag) (mg : Str → Option Value) (W : WX) (d : PSt → Res (α × PSt)) : L2.St → Hp → (ρ → Hp → Prop) → Prop := fun σ H Q => ∃ B ow σd, StRel K B ow σd σ H ∧ Go K mg W B ow σd σ H (d σd) Q
end
abbrev DE := PSt → Res (RV × PSt)
abbrev DA := PSt → Res (List D × PSt)
abbrev DT := PSt → Res (Bool × PSt)
abbrev DO := PSt → Res (Option Int × PSt)

section
variable {K : PySem.W.Frag} {mg : Str → Option Value} {W : WX} {B B' : Addr → Prop} {ow : Nat → Addr} {σd σd' σd1 : PSt} {σ : L2.St} {H H' H1 : Hp} {r : RV} {v : V} {d : D}
variable {α β ρ τ : Type} [Kd α ρ] [Kd β τ]
theorem Post.fr {a : α} {v : ρ} (P : Post K B ow σd σ H a σd' v H') : Fr0 ow σd H H' := P.1
theorem Post.sub {a : α} {v : ρ} (P : Post K B ow σd σ H a σd' v H') : SubO σd σd' := P.2.1
theorem Post.st {a : α} {v : ρ} (P : Post K B ow σd σ H a σd' v H') : StRel K B ow σd' σ H' := Kd.st P.2.2
theorem Post.rep (P : Post K B ow σd σ H r σd' v H') : Rep K H' (NN B ow σd') r.d v := by
  obtain ⟨_, _, P⟩ := P
  cases r with
  | val d => exact P.2
  | own xs =>
    obtain ⟨p, vs, e, h0, hb, h1, S, q⟩ := (show finRV K B ow σ H (.own xs) σd' v H' from P)
    refine ⟨p, vs, e, fun z => ?_, h1, RepL.mono (fun _ _ h _ => h) (fun a z => nn_bp z) _ _ q⟩
    rcases z with z | ⟨i, b, ys, e1, e2⟩
    · exact hb z
    · exact S.nb i b ys e1 (.inr e2)
theorem Post.repL {ds : List D} {vs : List V} (P : Post K B ow σd σ H ds σd' vs H') : RepL K H' (NN B ow σd') ds vs := P.2.2.2
theorem Post.bool {b c : Bool} (P : Post K B ow σd σ H b σd' c H') : c = b := P.2.2.2
/-- data that stood stands, where all but the owned lists is kept -/
theorem Rep.keep (h : Rep K H (NN B ow σd) d v) (f : Fr0 ow σd H H') (s : SubO σd σd') : Rep K H' (NN B ow σd') d v :=
  h.mono (fun a o e n => f.at e fun z => n (.inr z)) fun a z => s.nn z
theorem RepL.keep {ds : List D} {vs : List V} (h : RepL K H (NN B ow σd) ds vs) (f : Fr0 ow σd H H') (s : SubO σd σd') : RepL K H' (NN B ow σd') ds vs :=
  RepL.mono (fun a o e n => f.at e fun z => n (.inr z)) (fun a z => s.nn z) _ _ h
/-- an owned list stands -/
theorem StRel.there (S : StRel K B ow σd σ H) {p : Addr} (z : OwnA ow σd p) : ∃ vs, H p = some (.lst vs) := by
  obtain ⟨i, b, xs, e, rfl⟩ := z
  obtain ⟨vs, _, h, _⟩ := S.own i b xs e
  exact ⟨vs, h⟩
/-- outcomes behind one another -/
theorem Post.trans {a : α} {v : ρ} (f : Fr0 ow σd H H1) (s : SubO σd σd1) (P : Post K B ow σd1 σ H1 a σd' v H') : Post K B ow σd σ H a σd' v H' :=
  ⟨f.trans s P.1, s.trans P.2.1, Kd.up (fun _ h => f.free h) P.2.2⟩
theorem XPost.trans {c : Str} {x : Option (Str × D)} {cls : Value} {dd : Option Addr} (f : Fr0 ow σd H H1) (s : SubO σd σd1) (P : XPost K mg B ow σd1 H1 c x cls dd H') : XPost K mg B ow σd H c x cls dd H' :=
  ⟨f.trans s P.1, P.2⟩
theorem Go.shift {o : Res (α × PSt)} {Q : ρ → Hp → Prop} (f : Fr0 ow σd H H1) (s : SubO σd σd1) (g : Go K mg W B ow σd σ H o Q) : Go K mg W B ow σd1 σ H1 o Q := by
  cases o with
  | ok p => exact fun v H' P => g v H' (P.trans f s)
  | exc c x => exact fun cls dd σ' H' P => g cls dd σ' H' (P.trans f s)
  | bad => exact g
/-- one after another -/
theorem Go.bind {o : Res (α × PSt)} {k : α × PSt → Res (β × PSt)} {Q : τ → Hp → Prop} (g : Go K mg W B ow σd σ H (o.bind k) Q) :
    Go K mg W B ow σd σ H o fun v H1 => ∃ p, Post K B ow σd σ H p.1 p.2 v H1 ∧ Go K mg W B ow p.2 σ H1 (k p) Q := by
  cases o with
  | ok p => exact fun v H1 P => ⟨p, P, Go.shift P.1 P.2.1 g⟩
  | exc c x => exact g
  | bad => exact g
theorem Go.imp {o : Res (α × PSt)} {Q Q' : ρ → Hp → Prop} (g : Go K mg W B ow σd σ H o Q) (h : ∀ v H1, Q v H1 → Q' v H1) : Go K mg W B ow σd σ H o Q' := by
  cases o with
  | ok p => exact fun v H1 P => h v H1 (g v H1 P)
  | exc c x => exact g
  | bad => exact g
/-- the first part's reading -/
theorem Go.rdb {d : PSt → Res (α × PSt)} {k : α × PSt → Res (β × PSt)} {Q : τ → Hp → Prop} {Q' : ρ → Hp → Prop} (S : StRel K B ow σd σ H) (g : Go K mg W B ow σd σ H ((d σd).bind k) Q)
    (h : ∀ p v H1, Post K B ow σd σ H p.1 p.2 v H1 → Go K mg W B ow p.2 σ H1 (k p) Q → Q' v H1) : rd K mg W d σ H Q' :=
  ⟨B, ow, σd, S, g.bind.imp fun v H1 ⟨p, P, g1⟩ => h p v H1 P g1⟩
/-- the last part: a value told of -/
theorem Go.fin {r : RV} {Q : VK} {σd' : PSt} (S : StRel K B ow σd' σ H) (g : Go K mg W B ow σd' σ H (.ok (r, σd')) Q) {H' : Hp} (f : Fr0 ow σd' H H') (S' : StRel K B ow σd' σ H') {v : V} {d : D} (e : r = .val d) (h : Rep K H' (NN B ow σd') d v) : Q v H' := by
  subst e
  exact g v H' ⟨f, SubO.refl _, S', h⟩
end

/-- all that is tracked stands, more may be -/
def Grow (H H' : Hp) : Prop := ∀ a o, H a = some o → H' a = some o
theorem Grow.new {H : Hp} {p : Addr} {u : HO} (h : H p = none) : Grow H (upd H p u) := fun a o e => by
  rw [upd_ne (ne_of_none e h)]
  exact e
theorem Grow.fr {H H' : Hp} (g : Grow H H') (ow : Nat → Addr) (σd : PSt) : Fr0 ow σd H H' := fun a o e => ⟨⟨o, g a o e⟩, fun _ => g a o e⟩
theorem StRel.grow {K : PySem.W.Frag} {B : Addr → Prop} {ow : Nat → Addr} {σd : PSt} {σ : L2.St} {H H' : Hp} (S : StRel K B ow σd σ H) (g : Grow H H') : StRel K B ow σd σ H' := by
  refine ⟨S.len, fun i d e => ?_, fun i b xs e => ?_, S.inj, S.nb, fun a z => ?_⟩
  · obtain ⟨v, q, r⟩ := S.val i d e
    exact ⟨v, q, r.mono (fun a o h _ => g a o h) fun _ z => z⟩
  · obtain ⟨vs, q1, q2, r⟩ := S.own i b xs e
    exact ⟨vs, q1, g _ _ q2, RepL.mono (fun a o h _ => g a o h) (fun _ z => z) _ _ r⟩
  · obtain ⟨o, h⟩ := S.bt a z
    exact ⟨o, g a o h⟩
/-- .. and p is shut out -/
theorem StRel.shut {K : PySem.W.Frag} {B : Addr → Prop} {ow : Nat → Addr} {σd : PSt} {σ : L2.St} {H : Hp} {p : Addr} {u : HO} (S : StRel K B ow σd σ H) (h : H p = none) : StRel K (Bp B p) ow σd σ (upd H p u) := by
  have g : Grow H (upd H p u) := Grow.new h
  have gn : ∀ a, NN (Bp B p) ow σd a → NN B ow σd a ∨ a = p := fun a z => by
    rcases z with (z | z) | z
    · exact .inl (.inl z)
    · exact .inr z
    · exact .inl (.inr z)
  refine ⟨S.len, fun i d e => ?_, fun i b xs e => ?_, S.inj, fun i b xs e z => ?_, fun a z => ?_⟩
  · obtain ⟨v, q, r⟩ := S.val i d e
    exact ⟨v, q, (r.addN h).mono (fun a o h _ => g a o h) gn⟩
  · obtain ⟨vs, q1, q2, r⟩ := S.own i b xs e
    exact ⟨vs, q1, g _ _ q2, RepL.mono (fun a o h _ => g a o h) gn _ _ (RepL.addN h _ _ r)⟩
  · rcases z with z | z
    · exact S.nb i b xs e z
    · obtain ⟨vs, _, q, _⟩ := S.own i b xs e
      rw [z, h] at q
      cases q
  · rcases z with z | z
    · obtain ⟨o, q⟩ := S.bt a z
      exact ⟨o, g a o q⟩
    · exact ⟨u, by rw [z, upd_same]⟩
theorem StRel.nB {K : PySem.W.Frag} {B : Addr → Prop} {ow : Nat → Addr} {σd : PSt} {σ : L2.St} {H : Hp} {p : Addr} (S : StRel K B ow σd σ H) (h : H p = none) : ¬ B p := fun z => by
  obtain ⟨o, q⟩ := S.bt p z
  rw [h] at q
  cases q
theorem StRel.nN {K : PySem.W.Frag} {B : Addr → Prop} {ow : Nat → Addr} {σd : PSt} {σ : L2.St} {H : Hp} {p : Addr} (S : StRel K B ow σd σ H) (h : H p = none) : ¬ NN B ow σd p := fun z => by
  rcases z with z | z
  · exact S.nB h z
  · obtain ⟨vs, q⟩ := S.there z
    rw [h] at q
    cases q
/-- a new list of data that stands: an outcome of its own -/
theorem post_newL {K : PySem.W.Frag} {B : Addr → Prop} {ow : Nat → Addr} {σd : PSt} {σ : L2.St} {H : Hp} {p : Addr} {ds : List D} {vs : List V} (S : StRel K B ow σd σ H) (h : H p = none) (r : RepL K H (NN B ow σd) ds vs) :
    Post K B ow σd σ H (RV.own ds) σd (.ref p) (upd H p (.lst vs)) :=
  ⟨Fr0.new h, SubO.refl _, p, vs, rfl, h, S.nB h, upd_same, S.shut h, RepL.mono (fun a o e _ => Grow.new h a o e) (fun a z => by
    rcases z with (z | z) | z
    · exact .inl (.inl z)
    · exact .inr z
    · exact .inl (.inr z)) _ _ (RepL.addN h _ _ r)⟩
/-- a new tuple -/
theorem post_newT {K : PySem.W.Frag} {B : Addr → Prop} {ow : Nat → Addr} {σd : PSt} {σ : L2.St} {H : Hp} {p : Addr} {ds : List D} {vs : List V} (S : StRel K B ow σd σ H) (h : H p = none) (r : RepL K H (NN B ow σd) ds vs) :
    Post K B ow σd σ H (RV.val (.tup ds)) σd (.ref p) (upd H p (.tup vs)) :=
  ⟨Fr0.new h, SubO.refl _, S.grow (Grow.new h), p, vs, rfl, S.nN h, upd_same, RepL.mono (fun a o e _ => Grow.new h a o e) (fun _ z => z) _ _ r⟩

/-! ### expressions -/
/-- the expression e means d -/
def EX (X : Cx) (W : WX) (e : Expr) (d : DE) : Prop := PE X e (rd X.K X.mg W d)
def TX (X : Cx) (W : WX) (e : Expr) (d : DT) : Prop := PT X e (rd X.K X.mg W d)
def AX (X : Cx) (W : WX) (es : List Expr) (d : DA) : Prop := PA X es (rd X.K X.mg W d)
theorem PE.imp {X : Cx} {e : Expr} {t t' : TE} (h : PE X e t) (q : ∀ σ H Q, t' σ H Q → t σ H Q) : PE X e t' := ⟨fun pins s σ H Q I w => h.run pins s σ H Q I (q σ H Q w)⟩
theorem PT.imp {X : Cx} {e : Expr} {t t' : TT} (h : PT X e t) (q : ∀ σ H Q, t' σ H Q → t σ H Q) : PT X e t' := ⟨fun pins s σ H Q I w => h.run pins s σ H Q I (q σ H Q w)⟩
theorem PA.imp {X : Cx} {e : List Expr} {t t' : TA} (h : PA X e t) (q : ∀ σ H Q, t' σ H Q → t σ H Q) : PA X e t' := ⟨fun pos pins s σ H Q I w => h.run pos pins s σ H Q I (q σ H Q w)⟩
theorem PS.imp {X : Cx} {e : Stmt} {t t' : TS} (h : PS X e t) (q : ∀ D σ H, t' D σ H → t D σ H) : PS X e t' := ⟨fun pins s σ H D I w => h.run pins s σ H D I (q D σ H w)⟩

/-- a place of the slots is stored -/
def putS (σd : PSt) (i : Nat) (d : D) : PSt := σd.set i (.val d)
/-- a value out of the slots; a list that is owned is owned no more -/
def dVar (i : Nat) : DE := fun σd => match σd[i]? with
  | some (.val d) => .ok (.val d, σd)
  | some (.own false xs) => .ok (.val (.lst xs), σd.set i (.val (.lst xs)))
  | _ => .bad
def dC (d : D) : DE := fun σd => .ok (.val d, σd)
/-- x and y to z -/
def d2 (f : D → D → Option D) (da db : DE) : DE := fun σd => (da σd).bind fun p => (db p.2).bind fun q => match f p.1.d q.1.d with
  | some z => .ok (.val z, q.2)
  | none => .bad
def d1 (f : D → Option D) (da : DE) : DE := fun σd => (da σd).bind fun p => match f p.1.d with
  | some z => .ok (.val z, p.2)
  | none => .bad

section
variable {X : Cx} {W : WX} {a b e : Expr} {es : List Expr} {da db de : DE} {pos : Pos}
variable {K : PySem.W.Frag} {mg : Str → Option Value} {B B' : Addr → Prop} {ow : Nat → Addr} {σd σd' σd1 : PSt} {σ : L2.St} {H H' H1 : Hp} {r : RV} {v : V} {d : D}
theorem set_get {i j : Nat} {s t : SV} {l : PSt} (h : (l.set i s)[j]? = some t) : (i = j ∧ t = s) ∨ (i ≠ j ∧ l[j]? = some t) := by
  by_cases e : i = j
  · subst e
    by_cases hi : i < l.length
    · rw [List.getElem?_set_self hi] at h
      exact .inl ⟨rfl, (Option.some.inj h).symm⟩
    · rw [List.getElem?_eq_none (by simpa using hi)] at h
      cases h
  · rw [List.getElem?_set_ne e] at h
    exact .inr ⟨e, h⟩
/-- an owned list is owned no more -/
theorem StRel.freeze {i : Nat} {b : Bool} {xs : List D} (S : StRel K B ow σd σ H) (h : σd[i]? = some (SV.own b xs)) :
    StRel K B ow (σd.set i (.val (.lst xs))) σ H ∧ SubO σd (σd.set i (.val (.lst xs))) ∧ Rep K H (NN B ow (σd.set i (.val (.lst xs)))) (.lst xs) (.ref (ow i)) := by
  have sub : SubO σd (σd.set i (.val (.lst xs))) := fun j c ys e => by
    rcases set_get e with ⟨_, z⟩ | ⟨_, z⟩
    · cases z
    · exact ⟨ys, z⟩
  have gn : ∀ a, NN B ow (σd.set i (.val (.lst xs))) a → NN B ow σd a := fun a z => sub.nn z
  obtain ⟨vs, e1, e2, rl⟩ := S.own i b xs h
  have rp : Rep K H (NN B ow (σd.set i (.val (.lst xs)))) (.lst xs) (.ref (ow i)) := by
    refine ⟨ow i, vs, rfl, fun z => ?_, e2, RepL.mono (fun _ _ h _ => h) gn _ _ rl⟩
    rcases z with z | ⟨j, c, ys, e, q⟩
    · exact S.nb i b xs h z
    · rcases set_get e with ⟨_, z⟩ | ⟨n, z⟩
      · cases z
      · exact n (S.inj i j b c xs ys h z q.symm)
  refine ⟨⟨by rw [List.length_set]; exact S.len, fun j d e => ?_, fun j c ys e => ?_, fun j k c c' ys zs e e' q => ?_, fun j c ys e => ?_, S.bt⟩, sub, rp⟩
  · rcases set_get e with ⟨z, q⟩ | ⟨_, z⟩
    · cases q
      subst z
      exact ⟨_, e1, rp⟩
    · obtain ⟨v, q, r⟩ := S.val j d z
      exact ⟨v, q, r.mono (fun _ _ h _ => h) gn⟩
  · rcases set_get e with ⟨_, z⟩ | ⟨_, z⟩
    · cases z
    · obtain ⟨us, q1, q2, r⟩ := S.own j c ys z
      exact ⟨us, q1, q2, RepL.mono (fun _ _ h _ => h) gn _ _ r⟩
  · rcases set_get e with ⟨_, z⟩ | ⟨_, z⟩
    · cases z
    · rcases set_get e' with ⟨_, z'⟩ | ⟨_, z'⟩
      · cases z'
      · exact S.inj j k c c' ys zs z z' q
  · rcases set_get e with ⟨_, z⟩ | ⟨_, z⟩
    · cases z
    · exact S.nb j c ys z
theorem ex_of {t : TE} {d : DE} (h : PE X e t) (q : ∀ σ H Q B ow σd, StRel X.K B ow σd σ H → Go X.K X.mg W B ow σd σ H (d σd) Q → t σ H Q) : EX X W e d :=
  PE.imp h fun σ H Q ⟨B, ow, σd, S, g⟩ => q σ H Q B ow σd S g
theorem ex_var {i : Nat} {x : Str} (h : PE X (.Name x pos) (tVar i)) : EX X W (.Name x pos) (dVar i) := by
  refine ex_of h fun σ H Q B ow σd S g => ?_
  unfold dVar at g
  split at g
  · rename_i d e
    obtain ⟨v, e1, r⟩ := S.val i d e
    exact ⟨v, e1, g v H ⟨Fr0.refl _ _ _, SubO.refl _, S, r⟩⟩
  · rename_i xs e
    obtain ⟨S', sb, r⟩ := S.freeze e
    obtain ⟨vs, e1, _⟩ := S.own i false xs e
    exact ⟨_, e1, g _ H ⟨Fr0.refl _ _ _, sb, S', r⟩⟩
  · exact g.elim
/-- a constant: v is d whatever the heap -/
theorem ex_c {v : V} {d : D} (h : PE X e (tC v)) (r : ∀ H N, Rep X.K H N d v) : EX X W e (dC d) := by
  refine ex_of h fun σ H Q B ow σd S g => ?_
  exact g v H ⟨Fr0.refl _ _ _, SubO.refl _, S, r _ _⟩
/-- a two-place operation on values that makes nothing -/
def Op2 (K : PySem.W.Frag) (r : R2) (f : D → D → Option D) : Prop := ∀ (H : Hp) (N : Addr → Prop) (dx dy dz : D) (x y : V) (Q : VK), Rep K H N dx x → Rep K H N dy y → f dx dy = some dz → (∀ z, Rep K H N dz z → Q z H) → r x y H Q
def Op1 (K : PySem.W.Frag) (r : V → Hp → VK → Prop) (f : D → Option D) : Prop := ∀ (H : Hp) (N : Addr → Prop) (dx dz : D) (x : V) (Q : VK), Rep K H N dx x → f dx = some dz → (∀ z, Rep K H N dz z → Q z H) → r x H Q
theorem rd_op {r : R2} {f : D → D → Option D} (hf : Op2 X.K r f) {σ : L2.St} {H : Hp} {Q : VK} (S : StRel X.K B ow σd σ H) (g : Go X.K X.mg W B ow σd σ H (d2 f da db σd) Q) : tOp r (rd X.K X.mg W da) (rd X.K X.mg W db) σ H Q := by
  refine Go.rdb S g fun p v H1 P1 g1 => ?_
  refine Go.rdb P1.st g1 fun q u H2 P2 g2 => ?_
  split at g2
  · rename_i z e
    exact hf H2 _ _ _ z v u Q (P1.rep.keep P2.fr P2.sub) P2.rep e fun zv rz => g2 zv H2 ⟨Fr0.refl _ _ _, SubO.refl _, P2.st, rz⟩
  · exact g2.elim
theorem ex_op {op : Operator} {r : R2} {f : D → D → Option D} (ho : OpR X (binaryOp op) r) (hf : Op2 X.K r f) (ha : EX X W a da) (hb : EX X W b db) : EX X W (.BinOp a op b pos) (d2 f da db) :=
  ex_of (pe_op ho ha hb) fun σ H Q B ow σd S g => rd_op hf S g
theorem ex_cmp {op : CmpOp} {r : R2} {f : D → D → Option D} (ho : OpR X (compareOp op) r) (hf : Op2 X.K r f) (ha : EX X W a da) (hb : EX X W b db) (hm : behindInMarks op b = false) : EX X W (.Compare a [op] [b] pos) (d2 f da db) :=
  ex_of (pe_cmpR ho ha hb hm) fun σ H Q B ow σd S g => rd_op hf S g
theorem ex_ix {r : R2} {f : D → D → Option D} (ho : IxR X r) (hf : Op2 X.K r f) (ha : EX X W a da) (hb : EX X W b db) (hs : PlainIx b) : EX X W (.Subscript a b pos) (d2 f da db) :=
  ex_of (pe_ix ho ha hb hs) fun σ H Q B ow σd S g => rd_op hf S g
theorem ex_un {op : UnaryOp} {r : V → Hp → VK → Prop} {f : D → Option D} (ho : UnR X (unaryOp op) r) (hf : Op1 X.K r f) (ha : EX X W a da) : EX X W (.UnaryOp op a pos) (d1 f da) := by
  refine ex_of (pe_un ho ha) fun σ H Q B ow σd S g => ?_
  refine Go.rdb S g fun p v H1 P1 g1 => ?_
  split at g1
  · rename_i z e
    exact hf H1 _ _ z v Q P1.rep e fun zv rz => g1 zv H1 ⟨Fr0.refl _ _ _, SubO.refl _, P1.st, rz⟩
  · exact g1.elim
end
end PL
/-! PL2: operators, comparisons, tests, arguments, displays, subscripts. -/
namespace PL
open PySem PySem.Spec PyProof.Rows L2
section
variable {K : PySem.W.Frag} {mg : Str → Option Value} {W : WX} {B B' : Addr → Prop} {ow : Nat → Addr} {σd σd' σd1 : PSt} {σ : L2.St} {H H' H1 : Hp} {r : RV} {v : V} {d : D}

/-- a two-place operation on values -/
def OpP (K : PySem.W.Frag) (r : R2) (f : D → D → Option RV) : Prop := ∀ (B : Addr → Prop) (ow : Nat → Addr) (σd : PSt) (σ : L2.St) (H : Hp) (dx dy : D) (rz : RV) (x y : V) (Q : VK),
  StRel K B ow σd σ H → Rep K H (NN B ow σd) dx x → Rep K H (NN B ow σd) dy y → f dx dy = some rz → (∀ z H', Post K B ow σd σ H rz σd z H' → Q z H') → r x y H Q
def OpP1 (K : PySem.W.Frag) (r : V → Hp → VK → Prop) (f : D → Option RV) : Prop := ∀ (B : Addr → Prop) (ow : Nat → Addr) (σd : PSt) (σ : L2.St) (H : Hp) (dx : D) (rz : RV) (x : V) (Q : VK),
  StRel K B ow σd σ H → Rep K H (NN B ow σd) dx x → f dx = some rz → (∀ z H', Post K B ow σd σ H rz σd z H' → Q z H') → r x H Q
/-- a call of a built-in function on values -/
def OpPL (K : PySem.W.Frag) (r : List V → Hp → VK → Prop) (f : List D → Option RV) : Prop := ∀ (B : Addr → Prop) (ow : Nat → Addr) (σd : PSt) (σ : L2.St) (H : Hp) (ds : List D) (rz : RV) (vs : List V) (Q : VK),
  StRel K B ow σd σ H → RepL K H (NN B ow σd) ds vs → f ds = some rz → (∀ z H', Post K B ow σd σ H rz σd z H' → Q z H') → r vs H Q
theorem post_same (S : StRel K B ow σd σ H) (h : Rep K H (NN B ow σd) d v) : Post K B ow σd σ H (RV.val d) σd v H := ⟨Fr0.refl _ _ _, SubO.refl _, S, h⟩
theorem OpP.or {r r' : R2} {f f' : D → D → Option RV} (h : OpP K r f) (h' : OpP K r' f') : OpP K (fun x y H Q => r x y H Q ∨ r' x y H Q) (fun x y => (f x y).or (f' x y)) := by
  intro B ow σd σ H dx dy rz x y Q S rx ry e q
  have e : (f dx dy).or (f' dx dy) = some rz := e
  cases z : f dx dy with
  | some w =>
    rw [z] at e
    have e : w = rz := Option.some.inj e
    subst e
    exact .inl (h B ow σd σ H dx dy w x y Q S rx ry z q)
  | none =>
    rw [z] at e
    exact .inr (h' B ow σd σ H dx dy rz x y Q S rx ry e q)

/-! ### ints -/
def fI (C : Int → Int → Bool) (g : Int → Int → D) : D → D → Option RV
  | .int i, .int j => if C i j = true then some (.val (g i j)) else none
  | _, _ => none
def fI0 (g : Int → Int → D) : D → D → Option RV
  | .int i, .int j => some (.val (g i j))
  | _, _ => none
theorem opp_I0 {g : Int → Int → D} {g' : Int → Int → V} (h : ∀ i j H N, Rep K H N (g i j) (g' i j)) : OpP K (rI0 g') (fI0 g) := by
  intro B ow σd σ H dx dy rz x y Q S rx ry e q
  unfold fI0 at e
  split at e
  · rename_i i j
    cases e
    exact ⟨i, j, rx, ry, q _ _ (post_same S (h i j _ _))⟩
  · cases e
theorem opp_I {C : Int → Int → Prop} {C' : Int → Int → Bool} {g : Int → Int → D} {g' : Int → Int → V} (hC : ∀ i j, C' i j = true → C i j) (h : ∀ i j, C' i j = true → ∀ H N, Rep K H N (g i j) (g' i j)) : OpP K (rI C g') (fI C' g) := by
  intro B ow σd σ H dx dy rz x y Q S rx ry e q
  unfold fI at e
  split at e
  · rename_i i j
    split at e
    · rename_i c
      cases e
      exact ⟨i, j, rx, ry, hC i j c, q _ _ (post_same S (h i j c _ _))⟩
    · cases e
  · cases e
def bMul (i j : Int) : Bool := (decide (-(2 ^ 64) < i) && decide (i < 2 ^ 64)) || (decide (-(2 ^ 64) < j) && decide (j < 2 ^ 64))
def bDiv (_ j : Int) : Bool := decide (0 < j) && decide (j < 1073741824)
def bPos (_ j : Int) : Bool := decide (0 < j)
def bPow (i j : Int) : Bool := decide (0 ≤ j) && decide (j ≤ 1000000) && decide (i.natAbs < 2 ^ 64)
def bNN (_ j : Int) : Bool := decide (0 ≤ j)
abbrev fAddI := fI0 fun i j => .int (i + j)
abbrev fSubI := fI0 fun i j => .int (i - j)
abbrev fMulI := fI bMul fun i j => .int (i * j)
abbrev fDivI := fI bDiv fun i j => .int (i / j)
abbrev fModI := fI bPos fun i j => .int (i % j)
abbrev fPowI := fI bPow fun i j => .int (i ^ j.toNat)
abbrev fShlI := fI bPow fun i j => .int (i * 2 ^ j.toNat)
abbrev fShrI := fI bNN fun i j => .int (i / 2 ^ j.toNat)
/-- bits of numbers that are not negative -/
def fBit (g : Nat → Nat → Nat) : D → D → Option RV
  | .int i, .int j => if 0 ≤ i ∧ 0 ≤ j then some (.val (.int (g i.toNat j.toNat : Nat))) else none
  | _, _ => none
theorem op_add' {X : Cx} : OpP X.K (rI0 fun i j => .int (i + j)) fAddI := opp_I0 fun _ _ _ _ => rfl
theorem opp_sub {X : Cx} : OpP X.K (rI0 fun i j => .int (i - j)) fSubI := opp_I0 fun _ _ _ _ => rfl
theorem opp_mulI {X : Cx} : OpP X.K (rI CMul fun i j => .int (i * j)) fMulI := opp_I (fun i j h => by
  unfold bMul at h
  simp only [Bool.or_eq_true, Bool.and_eq_true, decide_eq_true_eq] at h
  exact h) fun _ _ _ _ _ => rfl
theorem opp_div {X : Cx} : OpP X.K (rI CDiv fun i j => .int (i / j)) fDivI := opp_I (fun i j h => by
  unfold bDiv at h
  simp only [Bool.and_eq_true, decide_eq_true_eq] at h
  exact h) fun _ _ _ _ _ => rfl
theorem opp_mod {X : Cx} : OpP X.K (rI (fun _ j => 0 < j) fun i j => .int (i % j)) fModI := opp_I (fun i j h => of_decide_eq_true h) fun _ _ _ _ _ => rfl
theorem cpow {i j : Int} (h : bPow i j = true) : CPow i j := by
  unfold bPow at h
  simp only [Bool.and_eq_true, decide_eq_true_eq] at h
  exact ⟨h.1.1, h.1.2, h.2⟩
theorem opp_pow {X : Cx} : OpP X.K (rI CPow fun i j => .int (i ^ j.toNat)) fPowI := opp_I (fun i j h => cpow h) fun _ _ _ _ _ => rfl
theorem opp_shl {X : Cx} : OpP X.K (rI CPow fun i j => .int (i * 2 ^ j.toNat)) fShlI := opp_I (fun i j h => cpow h) fun _ _ _ _ _ => rfl
theorem opp_shr {X : Cx} : OpP X.K (rI (fun _ j => 0 ≤ j) fun i j => .int (i / 2 ^ j.toNat)) fShrI := opp_I (fun i j h => of_decide_eq_true h) fun _ _ _ _ _ => rfl
theorem opp_bit {g : Nat → Nat → Nat} {g' : Int → Int → Int} (h : ∀ i j, 0 ≤ i → 0 ≤ j → g' i j = ((g i.toNat j.toNat : Nat) : Int)) : OpP K (rI0 fun i j => .int (g' i j)) (fBit g) := by
  intro B ow σd σ H dx dy rz x y Q S rx ry e q
  unfold fBit at e
  split at e
  · rename_i i j
    split at e
    · rename_i c
      cases e
      refine ⟨i, j, rx, ry, q _ _ (post_same S ?_)⟩
      show V.int _ = V.int _
      rw [h i j c.1 c.2]
    · cases e
  · cases e
theorem bitAnd_pp {i j : Int} (h1 : 0 ≤ i) (h2 : 0 ≤ j) : Builtin.bitAnd i j = ((i.toNat &&& j.toNat : Nat) : Int) := by
  unfold Builtin.bitAnd
  rw [decide_eq_true h1, decide_eq_true h2]
theorem opp_and {X : Cx} : OpP X.K (rI0 fun i j => .int (Builtin.bitAnd i j)) (fBit (· &&& ·)) := opp_bit fun _ _ h1 h2 => bitAnd_pp h1 h2
theorem opp_or {X : Cx} : OpP X.K (rI0 fun i j => .int (Builtin.bitOr i j)) (fBit (· ||| ·)) := opp_bit fun _ _ h1 h2 => Bits.bitOr_pp h1 h2
theorem opp_xor {X : Cx} : OpP X.K (rI0 fun i j => .int (Builtin.bitXor i j)) (fBit (· ^^^ ·)) := opp_bit fun _ _ h1 h2 => Bits.bitXor_pp h1 h2
theorem opp_lt {X : Cx} : OpP X.K (rI0 fun i j => .bl (decide (i < j))) (fI0 fun i j => .bl (decide (i < j))) := opp_I0 fun _ _ _ _ => rfl
theorem opp_le {X : Cx} : OpP X.K (rI0 fun i j => .bl (decide (i ≤ j))) (fI0 fun i j => .bl (decide (i ≤ j))) := opp_I0 fun _ _ _ _ => rfl
theorem opp_gt {X : Cx} : OpP X.K (rI0 fun i j => .bl (decide (j < i))) (fI0 fun i j => .bl (decide (j < i))) := opp_I0 fun _ _ _ _ => rfl
theorem opp_ge {X : Cx} : OpP X.K (rI0 fun i j => .bl (decide (j ≤ i))) (fI0 fun i j => .bl (decide (j ≤ i))) := opp_I0 fun _ _ _ _ => rfl

/-! ### tuples and lists: +, * -/
def most : Nat := 1000000
theorem most_le {n : Nat} (h : n ≤ most) : n ≤ sizeLine := Nat.le_trans h (by decide)
theorem most_lt {n : Nat} (h : n < most) : n < sizeLine := Nat.lt_of_lt_of_le h (by decide)
def fCatT : D → D → Option RV
  | .tup xs, .tup ys => if xs.length + ys.length ≤ most then some (.val (.tup (xs ++ ys))) else none
  | _, _ => none
def fCatL : D → D → Option RV
  | .lst xs, .lst ys => if xs.length + ys.length ≤ most then some (.own (xs ++ ys)) else none
  | _, _ => none
theorem opp_catT {X : Cx} : OpP X.K (rCatA X.K) fCatT := by
  intro B ow σd σ H dx dy rz x y Q S rx ry e q
  unfold fCatT at e
  split at e
  · rename_i xs ys
    split at e
    · rename_i c
      cases e
      obtain ⟨a, vs, rfl, na, ha, ra⟩ := rx
      obtain ⟨b, us, rfl, nb, hb, rb⟩ := ry
      refine ⟨a, b, vs, us, rfl, rfl, SqT.of ha, SqT.of hb, by rw [ra.length, rb.length]; exact most_le c, fun e => ?_, fun _ e => ?_, fun _ _ p hp => ?_⟩
      · subst e
        have l := ra.length
        have e2 : xs = [] := List.eq_nil_of_length_eq_zero l.symm
        subst e2
        exact q _ _ (post_same S ⟨b, us, rfl, nb, hb, rb⟩)
      · subst e
        have l := rb.length
        have e2 : ys = [] := List.eq_nil_of_length_eq_zero l.symm
        subst e2
        rw [List.append_nil] at q
        exact q _ _ (post_same S ⟨a, vs, rfl, na, ha, ra⟩)
      · exact q _ _ (post_newT S hp (ra.append rb))
    · cases e
  · cases e
theorem opp_catL {X : Cx} : OpP X.K rCat fCatL := by
  intro B ow σd σ H dx dy rz x y Q S rx ry e q
  unfold fCatL at e
  split at e
  · rename_i xs ys
    split at e
    · rename_i c
      cases e
      obtain ⟨a, vs, rfl, na, ha, ra⟩ := rx
      obtain ⟨b, us, rfl, nb, hb, rb⟩ := ry
      exact ⟨a, b, vs, us, rfl, rfl, ha, hb, by rw [ra.length, rb.length]; exact most_le c, fun p hp => q _ _ (post_newL S hp (ra.append rb))⟩
    · cases e
  · cases e
def rAddU (K : PySem.W.Frag) : R2 := fun x y H Q => (rI0 (fun i j => .int (i + j)) x y H Q) ∨ (rCatA K x y H Q ∨ rCat x y H Q)
def fAdd : D → D → Option RV := fun x y => (fAddI x y).or ((fCatT x y).or (fCatL x y))
theorem opr_addU {X : Cx} : OpR X (binaryOp .Add) (rAddU X.K) := op_add.or (op_catA.or op_cat)
theorem opp_addU {X : Cx} : OpP X.K (rAddU X.K) fAdd := OpP.or op_add' (OpP.or opp_catT opp_catL)
theorem rep_flat {ds : List D} {vs : List V} {N : Addr → Prop} (h : RepL K H N ds vs) : ∀ k : Nat, RepL K H N (List.replicate k ds).flatten (List.replicate k vs).flatten
  | 0 => rfl
  | k + 1 => by
    rw [List.replicate_succ, List.replicate_succ, List.flatten_cons, List.flatten_cons]
    exact h.append (rep_flat h k)
def fRepL : D → D → Option RV
  | .lst xs, .int k => if -1000000 ≤ k ∧ k ≤ 1000000 ∧ xs.length * k.toNat ≤ most then some (.own (List.replicate k.toNat xs).flatten) else none
  | _, _ => none
theorem opp_repL {X : Cx} : OpP X.K rRep fRepL := by
  intro B ow σd σ H dx dy rz x y Q S rx ry e q
  unfold fRepL at e
  split at e
  · rename_i xs k
    split at e
    · rename_i c
      cases e
      obtain ⟨a, vs, rfl, na, ha, ra⟩ := rx
      exact ⟨a, k, vs, rfl, ry, ha, by omega, by omega, by rw [ra.length]; exact most_le c.2.2, fun p hp => q _ _ (post_newL S hp (rep_flat ra _))⟩
    · cases e
  · cases e
def fRepT : D → D → Option RV
  | .tup xs, .int k => if xs ≠ [] ∧ 2 ≤ k ∧ k ≤ 1000 ∧ xs.length ≤ 1000 then some (.val (.tup (List.replicate k.toNat xs).flatten)) else none
  | _, _ => none
theorem opp_repT {X : Cx} : OpP X.K (rRepT X.K) fRepT := by
  intro B ow σd σ H dx dy rz x y Q S rx ry e q
  unfold fRepT at e
  split at e
  · rename_i xs k
    split at e
    · rename_i c
      cases e
      obtain ⟨a, vs, rfl, na, ha, ra⟩ := rx
      refine ⟨a, k, vs, rfl, ry, SqT.of ha, fun z => c.1 ?_, c.2.1, c.2.2.1, by rw [ra.length]; exact c.2.2.2, fun p hp => q _ _ (post_newT S hp (rep_flat ra _))⟩
      subst z
      exact List.eq_nil_of_length_eq_zero ra.length.symm
    · cases e
  · cases e
def rMulU (K : PySem.W.Frag) : R2 := fun x y H Q => (rI CMul (fun i j => .int (i * j)) x y H Q) ∨ (rRep x y H Q ∨ rRepT K x y H Q)
def fMul : D → D → Option RV := fun x y => (fMulI x y).or ((fRepL x y).or (fRepT x y))
theorem opr_mulU {X : Cx} : OpR X (binaryOp .Mult) (rMulU X.K) := op_mul.or (op_rep.or op_repT)
theorem opp_mulU {X : Cx} : OpP X.K (rMulU X.K) fMul := OpP.or opp_mulI (OpP.or opp_repL opp_repT)

/-! ### == -/
mutual
def toPy : D → Option PyData
  | .non => some .none
  | .bl b => some (.bool b)
  | .int i => some (.int i)
  | .str x => some (.str x)
  | .ty _ => none
  | .ref _ => none
  | .tup xs => (toPyL xs).map .tuple
  | .lst xs => (toPyL xs).map .list
  | .scr _ => none
def toPyL : List D → Option (List PyData)
  | [] => some []
  | x :: xs => match toPy x, toPyL xs with
    | some p, some ps => some (p :: ps)
    | _, _ => none
end
mutual
theorem Rep.dp {N : Addr → Prop} : ∀ (d : D) (p : PyData) (v : V), toPy d = some p → Rep K H N d v → Dp K H v p
  | .non, p, v, e, r => by cases e; cases r; exact .non
  | .bl b, p, v, e, r => by cases e; cases r; exact .bl b
  | .int i, p, v, e, r => by cases e; cases r; exact .int i
  | .str x, p, v, e, r => by cases e; cases r; exact .str x
  | .ty n, p, v, e, r => by cases e
  | .ref n, p, v, e, r => by cases e
  | .scr n, p, v, e, r => by cases e
  | .tup xs, p, v, e, r => by
    obtain ⟨a, vs, rfl, _, ha, ra⟩ := r
    cases z : toPyL xs with
    | none => rw [toPy, z] at e; cases e
    | some ps =>
      rw [toPy, z] at e
      cases e
      exact .tup (SqT.of ha) (RepL.dp xs ps vs z ra)
  | .lst xs, p, v, e, r => by
    obtain ⟨a, vs, rfl, _, ha, ra⟩ := r
    cases z : toPyL xs with
    | none => rw [toPy, z] at e; cases e
    | some ps =>
      rw [toPy, z] at e
      cases e
      exact .lst (SqL.of ha) (RepL.dp xs ps vs z ra)
theorem RepL.dp {N : Addr → Prop} : ∀ (ds : List D) (ps : List PyData) (vs : List V), toPyL ds = some ps → RepL K H N ds vs → DpAll K H vs ps
  | [], ps, vs, e, r => by
    have r : vs = [] := r
    subst r
    cases e
    exact .nil
  | d :: ds, ps, vs, e, r => by
    obtain ⟨v, us, rfl, h1, h2⟩ := r
    rw [toPyL] at e
    split at e
    · rename_i p qs e1 e2
      cases e
      exact .cons (Rep.dp d p v e1 h1) (RepL.dp ds qs us e2 h2)
    · cases e
end
def shp (p : PyData) : Bool := SeqAt.shaped p
def fEq (neg : Bool) : D → D → Option RV := fun x y => match toPy x, toPy y with
  | some p, some q => if shp p = true ∧ shp q = true then some (.val (.bl (if neg = true then !PyData.eqv p q else PyData.eqv p q))) else none
  | _, _ => none
theorem opp_eq {X : Cx} : OpP X.K (rEqD X.K) (fEq false) := by
  intro B ow σd σ H dx dy rz x y Q S rx ry e q
  unfold fEq at e
  split at e
  · rename_i p r e1 e2
    split at e
    · rename_i c
      cases e
      exact ⟨p, r, rx.dp _ _ _ e1, ry.dp _ _ _ e2, c.1, c.2, q _ _ (post_same S rfl)⟩
    · cases e
  · cases e
theorem opp_ne {X : Cx} : OpP X.K (rNeD X.K) (fEq true) := by
  intro B ow σd σ H dx dy rz x y Q S rx ry e q
  unfold fEq at e
  split at e
  · rename_i p r e1 e2
    split at e
    · rename_i c
      cases e
      exact ⟨p, r, rx.dp _ _ _ e1, ry.dp _ _ _ e2, c.1, c.2, q _ _ (post_same S rfl)⟩
    · cases e
  · cases e
/-- is None -/
def isNon : D → Bool
  | .non => true
  | _ => false
def fIs (neg : Bool) : D → D → Option RV
  | x, .non => some (.val (.bl (if neg = true then !isNon x else isNon x)))
  | _, _ => none
theorem rep_non {N : Addr → Prop} {x : V} {dx : D} (r : Rep K H N dx x) : decide (x = .non) = isNon dx := by
  cases dx <;> first
    | (cases r; rfl)
    | (obtain ⟨a, vs, rfl, _⟩ := r; rfl)
    | (obtain ⟨a, rfl, _⟩ := r; rfl)
theorem opp_is {X : Cx} : OpP X.K (fun x y H Q => y = .non ∧ Q (.bl (decide (x = .non))) H) (fIs false) := by
  intro B ow σd σ H dx dy rz x y Q S rx ry e q
  unfold fIs at e
  split at e
  · cases e
    refine ⟨ry, ?_⟩
    rw [rep_non rx]
    exact q _ _ (post_same S rfl)
  · cases e
theorem opp_isnot {X : Cx} : OpP X.K (fun x y H Q => y = .non ∧ Q (.bl (!decide (x = .non))) H) (fIs true) := by
  intro B ow σd σ H dx dy rz x y Q S rx ry e q
  unfold fIs at e
  split at e
  · cases e
    refine ⟨ry, ?_⟩
    rw [rep_non rx]
    exact q _ _ (post_same S rfl)
  · cases e
end

/-! ### the rules -/
def e2 (f : D → D → Option RV) (da db : DE) : DE := fun σd => (da σd).bind fun p => (db p.2).bind fun q => match f p.1.d q.1.d with
  | some z => .ok (z, q.2)
  | none => .bad
def e1 (f : D → Option RV) (da : DE) : DE := fun σd => (da σd).bind fun p => match f p.1.d with
  | some z => .ok (z, p.2)
  | none => .bad
def eL (f : List D → Option RV) (da : DA) : DE := fun σd => (da σd).bind fun p => match f p.1 with
  | some z => .ok (z, p.2)
  | none => .bad
section
variable {X : Cx} {W : WX} {a b c e : Expr} {es rest : List Expr} {da db dc de : DE} {dt du : DT} {ds : DA} {pos : Pos}
variable {B B' : Addr → Prop} {ow : Nat → Addr} {σd σd' σd1 : PSt} {σ : L2.St} {H H' H1 : Hp} {r : RV} {v : V} {d : D}
theorem rd_opP {r : R2} {f : D → D → Option RV} (hf : OpP X.K r f) {σ : L2.St} {H : Hp} {Q : VK} (S : StRel X.K B ow σd σ H) (g : Go X.K X.mg W B ow σd σ H (e2 f da db σd) Q) : tOp r (rd X.K X.mg W da) (rd X.K X.mg W db) σ H Q := by
  refine Go.rdb S g fun p v H1 P1 g1 => ?_
  refine Go.rdb P1.st g1 fun q u H2 P2 g2 => ?_
  split at g2
  · rename_i z e
    exact hf B ow q.2 σ H2 _ _ z v u Q P2.st (P1.rep.keep P2.fr P2.sub) P2.rep e fun zv H' rz => g2 zv H' rz
  · exact g2.elim
theorem eo {op : Operator} {r : R2} {f : D → D → Option RV} (ho : OpR X (binaryOp op) r) (hf : OpP X.K r f) (ha : EX X W a da) (hb : EX X W b db) : EX X W (.BinOp a op b pos) (e2 f da db) :=
  ex_of (pe_op ho ha hb) fun σ H Q B ow σd S g => rd_opP hf S g
theorem ec {op : CmpOp} {r : R2} {f : D → D → Option RV} (ho : OpR X (compareOp op) r) (hf : OpP X.K r f) (ha : EX X W a da) (hb : EX X W b db) (hm : behindInMarks op b = false) : EX X W (.Compare a [op] [b] pos) (e2 f da db) :=
  ex_of (pe_cmpR ho ha hb hm) fun σ H Q B ow σd S g => rd_opP hf S g
theorem e_add (ha : EX X W a da) (hb : EX X W b db) : EX X W (.BinOp a .Add b pos) (e2 fAdd da db) := eo opr_addU opp_addU ha hb
theorem e_sub (ha : EX X W a da) (hb : EX X W b db) : EX X W (.BinOp a .Sub b pos) (e2 fSubI da db) := eo op_sub opp_sub ha hb
theorem e_mul (ha : EX X W a da) (hb : EX X W b db) : EX X W (.BinOp a .Mult b pos) (e2 fMul da db) := eo opr_mulU opp_mulU ha hb
theorem e_div (ha : EX X W a da) (hb : EX X W b db) : EX X W (.BinOp a .FloorDiv b pos) (e2 fDivI da db) := eo op_fdiv opp_div ha hb
theorem e_mod (ha : EX X W a da) (hb : EX X W b db) : EX X W (.BinOp a .Mod b pos) (e2 fModI da db) := eo op_mod opp_mod ha hb
theorem e_pow (ha : EX X W a da) (hb : EX X W b db) : EX X W (.BinOp a .Pow b pos) (e2 fPowI da db) := eo op_pow opp_pow ha hb
theorem e_shl (ha : EX X W a da) (hb : EX X W b db) : EX X W (.BinOp a .LShift b pos) (e2 fShlI da db) := eo op_shl opp_shl ha hb
theorem e_shr (ha : EX X W a da) (hb : EX X W b db) : EX X W (.BinOp a .RShift b pos) (e2 fShrI da db) := eo op_shr opp_shr ha hb
theorem e_band (ha : EX X W a da) (hb : EX X W b db) : EX X W (.BinOp a .BitAnd b pos) (e2 (fBit (· &&& ·)) da db) := eo op_and opp_and ha hb
theorem e_bor (ha : EX X W a da) (hb : EX X W b db) : EX X W (.BinOp a .BitOr b pos) (e2 (fBit (· ||| ·)) da db) := eo op_or opp_or ha hb
theorem e_bxor (ha : EX X W a da) (hb : EX X W b db) : EX X W (.BinOp a .BitXor b pos) (e2 (fBit (· ^^^ ·)) da db) := eo op_xor opp_xor ha hb
theorem e_lt (ha : EX X W a da) (hb : EX X W b db) : EX X W (.Compare a [.Lt] [b] pos) (e2 (fI0 fun i j => .bl (decide (i < j))) da db) := ec op_lt opp_lt ha hb (nomark _)
theorem e_le (ha : EX X W a da) (hb : EX X W b db) : EX X W (.Compare a [.LtE] [b] pos) (e2 (fI0 fun i j => .bl (decide (i ≤ j))) da db) := ec op_le opp_le ha hb (nomark _)
theorem e_gt (ha : EX X W a da) (hb : EX X W b db) : EX X W (.Compare a [.Gt] [b] pos) (e2 (fI0 fun i j => .bl (decide (j < i))) da db) := ec op_gt opp_gt ha hb (nomark _)
theorem e_ge (ha : EX X W a da) (hb : EX X W b db) : EX X W (.Compare a [.GtE] [b] pos) (e2 (fI0 fun i j => .bl (decide (j ≤ i))) da db) := ec op_ge opp_ge ha hb (nomark _)
theorem e_eq (hu : X.A.units + 64 < cLine) (ha : EX X W a da) (hb : EX X W b db) : EX X W (.Compare a [.Eq] [b] pos) (e2 (fEq false) da db) := ec (op_eqD hu) opp_eq ha hb (nomark _)
theorem e_ne (hu : X.A.units + 64 < cLine) (ha : EX X W a da) (hb : EX X W b db) : EX X W (.Compare a [.NotEq] [b] pos) (e2 (fEq true) da db) := ec (op_neD hu) opp_ne ha hb (nomark _)
theorem e_is (ha : EX X W a da) (hb : EX X W b db) : EX X W (.Compare a [.Is] [b] pos) (e2 (fIs false) da db) := ec op_isN opp_is ha hb (nomark _)
theorem e_isnot (ha : EX X W a da) (hb : EX X W b db) : EX X W (.Compare a [.IsNot] [b] pos) (e2 (fIs true) da db) := ec op_notN opp_isnot ha hb (nomark _)
/-- two comparisons in a row -/
def eChain (f g : D → D → Option RV) (da db dc : DE) : DE := fun σd => (da σd).bind fun p => (db p.2).bind fun q => match f p.1.d q.1.d with
  | some (.val (.bl true)) => (dc q.2).bind fun s => match g q.1.d s.1.d with
    | some z => .ok (z, s.2)
    | none => .bad
  | some (.val (.bl false)) => .ok (.val (.bl false), q.2)
  | _ => .bad
/-- f's outcome is a value that is told without the heap -/
def Flat (f : D → D → Option RV) : Prop := ∀ x y z, f x y = some z → ∃ b, z = .val (.bl b)
theorem flat_I {g : Int → Int → Bool} : Flat (fI0 fun i j => .bl (g i j)) := fun x y z e => by
  unfold fI0 at e
  split at e
  · cases e
    exact ⟨_, rfl⟩
  · cases e
theorem e_chain {op op' : CmpOp} {r r' : R2} {f g : D → D → Option RV} (ho : OpR X (compareOp op) r) (hf : OpP X.K r f) (ho' : OpR X (compareOp op') r') (hg : OpP X.K r' g) (ha : EX X W a da) (hb : EX X W b db) (hc : EX X W c dc)
    (hm : lastMarks [op, op'] [b, c] = false := by with_unfolding_all rfl) : EX X W (.Compare a [op, op'] [b, c] pos) (eChain f g da db dc) := by
  refine ex_of (pe_chain ho ho' ha hb hc hm) fun σ H Q B ow σd S g0 => ?_
  refine Go.rdb S g0 fun p v H1 P1 g1 => ?_
  refine Go.rdb P1.st g1 fun q u H2 P2 g2 => ?_
  have rx := P1.rep.keep P2.fr P2.sub
  split at g2
  · rename_i e
    refine hf B ow q.2 σ H2 _ _ _ v u _ P2.st rx P2.rep e fun zv H' rz => ?_
    obtain ⟨fz, sz, S', ez⟩ := rz
    refine ⟨true, ez, ?_⟩
    rw [if_pos rfl]
    refine Go.rdb S' (Go.shift fz sz g2) fun s w H3 P3 g3 => ?_
    split at g3
    · rename_i z e'
      exact hg B ow s.2 σ H3 _ _ z u w Q P3.st ((P2.rep.keep fz sz).keep P3.fr P3.sub) P3.rep e' fun zv H' rz => g3 zv H' rz
    · exact g3.elim
  · rename_i e
    refine hf B ow q.2 σ H2 _ _ _ v u _ P2.st rx P2.rep e fun zv H' rz => ?_
    obtain ⟨fz, sz, S', ez⟩ := rz
    refine ⟨false, ez, ?_⟩
    rw [if_neg Bool.false_ne_true]
    exact g2 _ H' ⟨fz, sz, S', rfl⟩
  · exact g2.elim

/-! ### tests -/
/-- a value's truth -/
def truth : D → Option Bool
  | .non => some false
  | .bl b => some b
  | .int i => some (i != 0)
  | .tup xs => some (!xs.isEmpty)
  | .lst xs => some (!xs.isEmpty)
  | _ => none
theorem rep_truth {K : PySem.W.Frag} {N : Addr → Prop} {d : D} {v : V} {k : Bool} (r : Rep K H N d v) (h : truth d = some k) : TruV K v H k := by
  cases d with
  | non => cases h; cases r; rfl
  | bl b => cases h; cases r; rfl
  | int i => cases h; cases r; rfl
  | tup xs =>
    obtain ⟨a, vs, rfl, _, ha, ra⟩ := r
    have h : (!xs.isEmpty) = k := Option.some.inj h
    refine .inr (.inl ⟨vs, SqT.of ha, ?_⟩)
    rw [← h]
    have l := ra.length
    cases xs <;> cases vs <;> simp at l ⊢
  | lst xs =>
    obtain ⟨a, vs, rfl, _, ha, ra⟩ := r
    have h : (!xs.isEmpty) = k := Option.some.inj h
    refine .inl ⟨vs, SqL.of ha, ?_⟩
    rw [← h]
    have l := ra.length
    cases xs <;> cases vs <;> simp at l ⊢
  | _ => cases h
def tOf (da : DE) : DT := fun σd => (da σd).bind fun p => match truth p.1.d with
  | some k => .ok (k, p.2)
  | none => .bad
theorem tx_of {t : TT} {d : DT} (h : PT X e t) (q : ∀ σ H Q B ow σd, StRel X.K B ow σd σ H → Go X.K X.mg W B ow σd σ H (d σd) Q → t σ H Q) : TX X W e d :=
  PT.imp h fun σ H Q ⟨B, ow, σd, S, g⟩ => q σ H Q B ow σd S g
/-- any expression whose test is its value's truth -/
theorem t_val (ha : EX X W a da) (he : ∀ whole, isTrue a X.env whole = (do let v ← whole; standAt a.pos; holding [v] (truthy v)) := by intro _; rfl) : TX X W a (tOf da) := by
  refine tx_of (pt_truth ha he) fun σ H Q B ow σd S g => ?_
  refine Go.rdb S g fun p v H1 P1 g1 => ?_
  split at g1
  · rename_i k e
    exact ⟨k, rep_truth P1.rep e, g1 k H1 ⟨Fr0.refl _ _ _, SubO.refl _, P1.st, rfl⟩⟩
  · exact g1.elim
def tBl (de : DE) : DT := fun σd => (de σd).bind fun p => match p.1.d with
  | .bl k => .ok (k, p.2)
  | _ => .bad
theorem go_bl {K : PySem.W.Frag} {mg : Str → Option Value} {Q : Bool → Hp → Prop} (g : Go K mg W B ow σd σ H (tBl de σd) Q) : Go K mg W B ow σd σ H (de σd) fun x H' => ∃ k, x = .bl k ∧ Q k H' := by
  refine Go.imp g.bind fun v H1 ⟨p, P, g1⟩ => ?_
  have r := P.rep
  split at g1
  · rename_i k e
    rw [e] at r
    exact ⟨k, r, g1 k H1 ⟨Fr0.refl _ _ _, SubO.refl _, P.st, rfl⟩⟩
  · exact g1.elim
/-- a comparison as a test -/
theorem tc {op : CmpOp} {r : R2} {f : D → D → Option RV} (ho : OpR X (compareOp op) r) (hf : OpP X.K r f) (ha : EX X W a da) (hb : EX X W b db) (hm : behindInMarks op b = false) : TX X W (.Compare a [op] [b] pos) (tBl (e2 f da db)) :=
  tx_of (pt_cmpR ho ha hb hm) fun σ H Q B ow σd S g => rd_opP hf S (go_bl g)
theorem t_lt (ha : EX X W a da) (hb : EX X W b db) : TX X W (.Compare a [.Lt] [b] pos) (tBl (e2 (fI0 fun i j => .bl (decide (i < j))) da db)) := tc op_lt opp_lt ha hb (nomark _)
theorem t_le (ha : EX X W a da) (hb : EX X W b db) : TX X W (.Compare a [.LtE] [b] pos) (tBl (e2 (fI0 fun i j => .bl (decide (i ≤ j))) da db)) := tc op_le opp_le ha hb (nomark _)
theorem t_gt (ha : EX X W a da) (hb : EX X W b db) : TX X W (.Compare a [.Gt] [b] pos) (tBl (e2 (fI0 fun i j => .bl (decide (j < i))) da db)) := tc op_gt opp_gt ha hb (nomark _)
theorem t_ge (ha : EX X W a da) (hb : EX X W b db) : TX X W (.Compare a [.GtE] [b] pos) (tBl (e2 (fI0 fun i j => .bl (decide (j ≤ i))) da db)) := tc op_ge opp_ge ha hb (nomark _)
theorem t_eq (hu : X.A.units + 64 < cLine) (ha : EX X W a da) (hb : EX X W b db) : TX X W (.Compare a [.Eq] [b] pos) (tBl (e2 (fEq false) da db)) := tc (op_eqD hu) opp_eq ha hb (nomark _)
theorem t_ne (hu : X.A.units + 64 < cLine) (ha : EX X W a da) (hb : EX X W b db) : TX X W (.Compare a [.NotEq] [b] pos) (tBl (e2 (fEq true) da db)) := tc (op_neD hu) opp_ne ha hb (nomark _)
theorem t_is (ha : EX X W a da) (hb : EX X W b db) : TX X W (.Compare a [.Is] [b] pos) (tBl (e2 (fIs false) da db)) := tc op_isN opp_is ha hb (nomark _)
theorem t_isnot (ha : EX X W a da) (hb : EX X W b db) : TX X W (.Compare a [.IsNot] [b] pos) (tBl (e2 (fIs true) da db)) := tc op_notN opp_isnot ha hb (nomark _)
theorem rd_chain {r r' : R2} {f g : D → D → Option RV} (hf : OpP X.K r f) (hg : OpP X.K r' g) {Q : VK} (S : StRel X.K B ow σd σ H) (g0 : Go X.K X.mg W B ow σd σ H (eChain f g da db dc σd) Q) :
    tChain r r' (rd X.K X.mg W da) (rd X.K X.mg W db) (rd X.K X.mg W dc) σ H Q := by
  refine Go.rdb S g0 fun p v H1 P1 g1 => ?_
  refine Go.rdb P1.st g1 fun q u H2 P2 g2 => ?_
  have rx := P1.rep.keep P2.fr P2.sub
  split at g2
  · rename_i e
    refine hf B ow q.2 σ H2 _ _ _ v u _ P2.st rx P2.rep e fun zv H' rz => ?_
    obtain ⟨fz, sz, S', ez⟩ := rz
    refine ⟨true, ez, ?_⟩
    rw [if_pos rfl]
    refine Go.rdb S' (Go.shift fz sz g2) fun s w H3 P3 g3 => ?_
    split at g3
    · rename_i z e'
      exact hg B ow s.2 σ H3 _ _ z u w Q P3.st ((P2.rep.keep fz sz).keep P3.fr P3.sub) P3.rep e' fun zv H' rz => g3 zv H' rz
    · exact g3.elim
  · rename_i e
    refine hf B ow q.2 σ H2 _ _ _ v u _ P2.st rx P2.rep e fun zv H' rz => ?_
    obtain ⟨fz, sz, S', ez⟩ := rz
    refine ⟨false, ez, ?_⟩
    rw [if_neg Bool.false_ne_true]
    exact g2 _ H' ⟨fz, sz, S', rfl⟩
  · exact g2.elim
theorem t_chain {op op' : CmpOp} {r r' : R2} {f g : D → D → Option RV} (ho : OpR X (compareOp op) r) (hf : OpP X.K r f) (ho' : OpR X (compareOp op') r') (hg : OpP X.K r' g) (ha : EX X W a da) (hb : EX X W b db) (hc : EX X W c dc)
    (hm : lastMarks [op, op'] [b, c] = false := by with_unfolding_all rfl) : TX X W (.Compare a [op, op'] [b, c] pos) (tBl (eChain f g da db dc)) :=
  tx_of (pt_chain ho ho' ha hb hc hm) fun σ H Q B ow σd S g => rd_chain hf hg S (go_bl g)

/-- tests whatever their whole is -/
def WXp (X : Cx) (W : WX) (e : Expr) (d : DT) : Prop := PW X e (rd X.K X.mg W d)
theorem PW.imp {X : Cx} {e : Expr} {t t' : TT} (h : PW X e t) (q : ∀ σ H Q, t' σ H Q → t σ H Q) : PW X e t' := ⟨fun wh pins s σ H Q I w => h.run wh pins s σ H Q I (q σ H Q w)⟩
def tAnd2 (dt du : DT) : DT := fun σd => (dt σd).bind fun p => if p.1 = true then du p.2 else .ok (false, p.2)
def tOr2 (dt du : DT) : DT := fun σd => (dt σd).bind fun p => if p.1 = true then .ok (true, p.2) else du p.2
def tNot1 (dt : DT) : DT := fun σd => (dt σd).bind fun p => .ok (!p.1, p.2)
theorem w_and1 (ha : TX X W a dt) : WXp X W (.BoolOp .And [a] pos) dt := pw_and1 ha
theorem w_or1 (ha : TX X W a dt) : WXp X W (.BoolOp .Or [a] pos) dt := pw_or1 ha
theorem w_and (ha : TX X W a dt) (hb : WXp X W (.BoolOp .And (b :: rest) pos) du) : WXp X W (.BoolOp .And (a :: b :: rest) pos) (tAnd2 dt du) := by
  refine PW.imp (pw_and ha hb) fun σ H Q ⟨B, ow, σd, S, g⟩ => ?_
  refine Go.rdb S g fun p c H1 P g1 => ?_
  have e := P.bool
  subst e
  cases hc : p.1 with
  | true =>
    rw [if_pos rfl]
    rw [hc, if_pos rfl] at g1
    exact ⟨B, ow, p.2, P.st, g1⟩
  | false =>
    rw [if_neg Bool.false_ne_true]
    rw [hc, if_neg Bool.false_ne_true] at g1
    exact g1 false H1 ⟨Fr0.refl _ _ _, SubO.refl _, P.st, rfl⟩
theorem w_or (ha : TX X W a dt) (hb : WXp X W (.BoolOp .Or (b :: rest) pos) du) : WXp X W (.BoolOp .Or (a :: b :: rest) pos) (tOr2 dt du) := by
  refine PW.imp (pw_or ha hb) fun σ H Q ⟨B, ow, σd, S, g⟩ => ?_
  refine Go.rdb S g fun p c H1 P g1 => ?_
  have e := P.bool
  subst e
  cases hc : p.1 with
  | true =>
    rw [if_pos rfl]
    rw [hc, if_pos rfl] at g1
    exact g1 true H1 ⟨Fr0.refl _ _ _, SubO.refl _, P.st, rfl⟩
  | false =>
    rw [if_neg Bool.false_ne_true]
    rw [hc, if_neg Bool.false_ne_true] at g1
    exact ⟨B, ow, p.2, P.st, g1⟩
theorem t_w (h : WXp X W e dt) : TX X W e dt := L2.PW.pt h
theorem t_not (ha : TX X W a dt) : TX X W (.UnaryOp .Not a pos) (tNot1 dt) := by
  refine tx_of (pt_not ha) fun σ H Q B ow σd S g => ?_
  refine Go.rdb S g fun p c H1 P g1 => ?_
  have e := P.bool
  subst e
  exact g1 _ H1 ⟨Fr0.refl _ _ _, SubO.refl _, P.st, rfl⟩
/-- and, or, not as values -/
def eAnd (da db : DE) : DE := fun σd => (da σd).bind fun p => match truth p.1.d with
  | some true => db p.2
  | some false => .ok (.val p.1.d, p.2)
  | none => .bad
def eOr (da db : DE) : DE := fun σd => (da σd).bind fun p => match truth p.1.d with
  | some false => db p.2
  | some true => .ok (.val p.1.d, p.2)
  | none => .bad
def eNot (da : DE) : DE := fun σd => (da σd).bind fun p => match truth p.1.d with
  | some k => .ok (.val (.bl (!k)), p.2)
  | none => .bad
theorem e_one {op} (ha : EX X W a da) : EX X W (.BoolOp op [a] pos) da := pe_one ha
theorem e_and (ha : EX X W a da) (hb : EX X W (.BoolOp .And (b :: rest) pos) db) : EX X W (.BoolOp .And (a :: b :: rest) pos) (eAnd da db) := by
  refine ex_of (pe_andT ha hb) fun σ H Q B ow σd S g => ?_
  refine Go.rdb S g fun p v H1 P g1 => ?_
  split at g1
  · rename_i e
    exact ⟨true, rep_truth P.rep e, by rw [if_pos rfl]; exact ⟨B, ow, p.2, P.st, g1⟩⟩
  · rename_i e
    exact ⟨false, rep_truth P.rep e, by rw [if_neg Bool.false_ne_true]; exact g1 v H1 (post_same P.st P.rep)⟩
  · exact g1.elim
theorem e_or (ha : EX X W a da) (hb : EX X W (.BoolOp .Or (b :: rest) pos) db) : EX X W (.BoolOp .Or (a :: b :: rest) pos) (eOr da db) := by
  refine ex_of (pe_orT ha hb) fun σ H Q B ow σd S g => ?_
  refine Go.rdb S g fun p v H1 P g1 => ?_
  split at g1
  · rename_i e
    exact ⟨false, rep_truth P.rep e, by rw [if_neg Bool.false_ne_true]; exact ⟨B, ow, p.2, P.st, g1⟩⟩
  · rename_i e
    exact ⟨true, rep_truth P.rep e, by rw [if_pos rfl]; exact g1 v H1 (post_same P.st P.rep)⟩
  · exact g1.elim
theorem e_not (ha : EX X W a da) : EX X W (.UnaryOp .Not a pos) (eNot da) := by
  refine ex_of (pe_notT ha) fun σ H Q B ow σd S g => ?_
  refine Go.rdb S g fun p v H1 P g1 => ?_
  split at g1
  · rename_i k e
    exact ⟨k, rep_truth P.rep e, g1 _ H1 (post_same P.st rfl)⟩
  · exact g1.elim
def eIf (dt : DT) (da db : DE) : DE := fun σd => (dt σd).bind fun p => if p.1 = true then da p.2 else db p.2
theorem e_if (hc : TX X W c dt) (ha : EX X W a da) (hb : EX X W b db) : EX X W (.IfExp c a b pos) (eIf dt da db) := by
  refine ex_of (pe_ifExp hc ha hb) fun σ H Q B ow σd S g => ?_
  refine Go.rdb S g fun p k H1 P g1 => ?_
  have e := P.bool
  subst e
  cases hc : p.1 with
  | true =>
    rw [if_pos rfl]
    rw [hc, if_pos rfl] at g1
    exact ⟨B, ow, p.2, P.st, g1⟩
  | false =>
    rw [if_neg Bool.false_ne_true]
    rw [hc, if_neg Bool.false_ne_true] at g1
    exact ⟨B, ow, p.2, P.st, g1⟩
def eNeg (da : DE) : DE := e1 (fun x => match x with | .int i => some (.val (.int (-i))) | _ => none) da
theorem e_neg (ha : EX X W a da) : EX X W (.UnaryOp .USub a pos) (eNeg da) := by
  refine ex_of (pe_un un_neg ha) fun σ H Q B ow σd S g => ?_
  unfold eNeg e1 at g
  refine Go.rdb S g fun p v H1 P g1 => ?_
  have r := P.rep
  split at g1
  · rename_i z e
    dsimp only at e
    split at e
    · rename_i i e'
      cases e
      rw [e'] at r
      exact ⟨i, r, g1 _ H1 (post_same P.st rfl)⟩
    · cases e
  · exact g1.elim

/-! ### arguments, displays -/
def aNil : DA := fun σd => .ok ([], σd)
def aCons (de : DE) (da : DA) : DA := fun σd => (de σd).bind fun p => (da p.2).bind fun q => .ok (p.1.d :: q.1, q.2)
theorem a_nil : AX X W [] aNil := PA.imp pa_nil fun σ H Q ⟨B, ow, σd, S, g⟩ => g [] H ⟨Fr0.refl _ _ _, SubO.refl _, S, rfl⟩
theorem a_cons (ha : EX X W e de) (hr : AX X W es ds) (hs : starEach (e :: es) X.env = (false, eval e X.env) :: starEach es X.env := by rfl) : AX X W (e :: es) (aCons de ds) := by
  refine PA.imp (pa_cons ha hr hs) fun σ H Q ⟨B, ow, σd, S, g⟩ => ?_
  refine Go.rdb S g fun p v H1 P1 g1 => ?_
  refine Go.rdb P1.st g1 fun q vs H2 P2 g2 => ?_
  exact g2 _ H2 ⟨Fr0.refl _ _ _, SubO.refl _, P2.st, v, vs, rfl, P1.rep.keep P2.fr P2.sub, P2.repL⟩
def eTup (da : DA) : DE := fun σd => (da σd).bind fun p => if p.1.length ≤ most then .ok (.val (.tup p.1), p.2) else .bad
def eLst (da : DA) : DE := fun σd => (da σd).bind fun p => if p.1.length ≤ most then .ok (.own p.1, p.2) else .bad
theorem e_tup {k} (h : AX X W es ds) : EX X W (.Tuple es k pos) (eTup ds) := by
  refine ex_of (pe_tup h) fun σ H Q B ow σd S g => ?_
  refine Go.rdb S g fun p vs H1 P g1 => ?_
  split at g1
  · rename_i c
    exact ⟨by rw [P.repL.length]; exact most_le c, fun q hq => g1 _ _ (post_newT P.st hq P.repL)⟩
  · exact g1.elim
theorem e_lst (h : AX X W es ds) : EX X W (.List es pos) (eLst ds) := by
  refine ex_of (pe_lst h) fun σ H Q B ow σd S g => ?_
  refine Go.rdb S g fun p vs H1 P g1 => ?_
  split at g1
  · rename_i c
    exact ⟨by rw [P.repL.length]; exact most_le c, fun q hq => g1 _ _ (post_newL P.st hq P.repL)⟩
  · exact g1.elim

/-! ### subscripts -/
theorem atI_rep {K : PySem.W.Frag} {N : Addr → Prop} {ds : List D} {vs : List V} {k : Int} {d : D} (r : RepL K H N ds vs) (h : atI ds k = some d) : ∃ v, atI vs k = some v ∧ Rep K H N d v := by
  unfold atI at h ⊢
  rw [r.length]
  cases z : ixN ds.length k with
  | none => rw [z] at h; cases h
  | some j =>
    rw [z] at h
    exact r.get h
def fIx : D → D → Option RV
  | .tup xs, .int k => (atI xs k).map .val
  | .lst xs, .int k => (atI xs k).map .val
  | .scr ns, .int k => (atI ns k).map fun n => .val (.int n)
  | _, _ => none
theorem map_some {α β : Type} {f : α → β} {o : Option α} {b : β} (h : o.map f = some b) : ∃ a, o = some a ∧ f a = b := by
  cases o with
  | none => cases h
  | some a => exact ⟨a, rfl, Option.some.inj h⟩
theorem sql_scr {K : PySem.W.Frag} {N : Addr → Prop} {ns : List Int} {v : V} (r : Rep K H N (.scr ns) v) : ∃ a, v = .ref a ∧ SqL K H a (ns.map V.int) := by
  obtain ⟨a, e, ⟨_, o, h⟩ | h⟩ := r
  · exact ⟨a, e, .inl (.inr ⟨o, h⟩)⟩
  · exact ⟨a, e, .inr h⟩
theorem atI_map {α β : Type} {f : α → β} {xs : List α} {k : Int} {a : α} (h : atI xs k = some a) : atI (xs.map f) k = some (f a) := by
  unfold atI at h ⊢
  rw [List.length_map]
  cases z : ixN xs.length k with
  | none => rw [z] at h; cases h
  | some j =>
    rw [z] at h
    have h : xs[j]? = some a := h
    show (xs.map f)[j]? = some (f a)
    rw [List.getElem?_map, h]
    rfl
theorem opp_ix {X : Cx} : OpP X.K (rIx X.K) fIx := by
  intro B ow σd σ H dx dy rz x y Q S rx ry e q
  unfold fIx at e
  split at e
  · rename_i xs k
    obtain ⟨d, e1, rfl⟩ := map_some e
    obtain ⟨a, vs, rfl, na, ha, ra⟩ := rx
    obtain ⟨v, e2, rv⟩ := atI_rep ra e1
    exact .inr (.inl ⟨a, vs, k, v, rfl, ry, SqT.of ha, e2, q _ _ (post_same S rv)⟩)
  · rename_i xs k
    obtain ⟨d, e1, rfl⟩ := map_some e
    obtain ⟨a, vs, rfl, na, ha, ra⟩ := rx
    obtain ⟨v, e2, rv⟩ := atI_rep ra e1
    exact .inl ⟨a, vs, k, v, rfl, ry, SqL.of ha, e2, q _ _ (post_same S rv)⟩
  · rename_i ns k
    obtain ⟨n, e1, rfl⟩ := map_some e
    obtain ⟨a, rfl, hs⟩ := sql_scr rx
    exact .inl ⟨a, _, k, .int n, rfl, ry, hs, atI_map e1, q _ _ (post_same S rfl)⟩
  · cases e
theorem e_ix (ha : EX X W a da) (hb : EX X W b db) (hs : PlainIx b := by exact fun _ _ => rfl) : EX X W (.Subscript a b pos) (e2 fIx da db) :=
  ex_of (pe_ix ix_seq ha hb hs) fun σ H Q B ow σd S g => rd_opP opp_ix S g
/-- a place of an owned list (or of what a slot bears): read, still owned -/
def eIxO (i : Nat) (db : DE) : DE := fun σd => match σd[i]? with
  | some (.own _ _) => (db σd).bind fun q => match q.2[i]? with
      | some (.own _ xs) => (match fIx (.lst xs) q.1.d with
        | some z => .ok (z, q.2)
        | none => .bad)
      | _ => .bad
  | _ => e2 fIx (dVar i) db σd
theorem e_ixO {i : Nat} {x : Str} {xp : Pos} (hv : PE X (.Name x xp) (tVar i)) (hb : EX X W b db) (hs : PlainIx b := by exact fun _ _ => rfl) : EX X W (.Subscript (.Name x xp) b pos) (eIxO i db) := by
  have h2 := e_ix (pos := pos) (ex_var (W := W) hv) hb hs
  refine ⟨fun pins s σ H Q I h => ?_⟩
  obtain ⟨B, ow, σd, S, g⟩ := h
  unfold eIxO at g
  split at g
  · rename_i t xs0 e0
    refine (pe_ix ix_list hv hb hs).run pins s σ H Q I ?_
    obtain ⟨vs0, es, _, _⟩ := S.own i t xs0 e0
    refine ⟨.ref (ow i), es, ?_⟩
    refine Go.rdb S g fun q u H2 P g1 => ?_
    split at g1
    · rename_i t2 xs e2
      obtain ⟨vs, _, hl, rl⟩ := P.st.own i t2 xs e2
      have ry := P.rep
      split at g1
      · rename_i z ez
        unfold fIx at ez
        split at ez <;> try (rename_i hc _; cases hc)
        · rename_i k hc
          rw [hc] at ry
          obtain ⟨d, e1, rfl⟩ := map_some ez
          obtain ⟨v, e3, rv⟩ := atI_rep rl e1
          exact ⟨ow i, vs, k, v, rfl, ry, SqL.of hl, e3, g1 _ _ (post_same P.st rv)⟩
        · cases ez
      · exact g1.elim
    · exact g1.elim
  · exact h2.run pins s σ H Q I ⟨B, ow, σd, S, g⟩
end
end PL
/-! PL3: slices, calls of built-ins, what is walked, comprehensions. -/
namespace PL
open PySem PySem.Spec PyProof.Rows L2
section
variable {K : PySem.W.Frag} {N N' : Addr → Prop} {H0 H : Hp}
mutual
/-- data of an elder heap -/
theorem Rep.lift (f : ∀ a o, H0 a = some o → ¬ N a → H a = some o) (g : ∀ a, N' a → N a ∨ H0 a = none) : ∀ (d : D) (v : V), Rep K H0 N d v → Rep K H N' d v
  | .non, v, h => h
  | .bl b, v, h => h
  | .int i, v, h => h
  | .str x, v, h => h
  | .ty n, v, h => h
  | .ref a, v, h => h
  | .tup ds, v, h => by
    obtain ⟨a, vs, e, n, s, r⟩ := h
    exact ⟨a, vs, e, fun z => (g a z).elim n (fun q => nomatch s.symm.trans q), f _ _ s n, RepL.lift f g ds vs r⟩
  | .lst ds, v, h => by
    obtain ⟨a, vs, e, n, s, r⟩ := h
    exact ⟨a, vs, e, fun z => (g a z).elim n (fun q => nomatch s.symm.trans q), f _ _ s n, RepL.lift f g ds vs r⟩
  | .scr ns, v, h => by
    obtain ⟨a, e, ⟨n, o, s⟩ | s⟩ := h
    · exact ⟨a, e, .inl ⟨fun z => (g a z).elim n (fun q => nomatch s.symm.trans q), o, f _ _ s n⟩⟩
    · exact ⟨a, e, .inr s⟩
theorem RepL.lift (f : ∀ a o, H0 a = some o → ¬ N a → H a = some o) (g : ∀ a, N' a → N a ∨ H0 a = none) : ∀ (ds : List D) (vs : List V), RepL K H0 N ds vs → RepL K H N' ds vs
  | [], vs, h => h
  | d :: ds, vs, h => by
    obtain ⟨v, r, e, h1, h2⟩ := h
    exact ⟨v, r, e, Rep.lift f g d v h1, RepL.lift f g ds r h2⟩
end
end
/-! ### slices -/
def cutG {α : Type} (xs : List α) (lo hi : Option Int) : List α := (xs.drop (HT.sIx xs.length 0 lo)).take (HT.sIx xs.length xs.length hi - HT.sIx xs.length 0 lo)
theorem cutG_map {α β : Type} (f : α → β) (xs : List α) (lo hi : Option Int) : cutG (xs.map f) lo hi = (cutG xs lo hi).map f := by
  unfold cutG
  rw [List.length_map, List.map_take, List.map_drop]
def OX (X : Cx) (W : WX) (e : Option Expr) (d : DO) : Prop := PO X e (rd X.K X.mg W d)
theorem PO.imp {X : Cx} {e : Option Expr} {t t' : TO} (h : PO X e t) (q : ∀ σ H Q, t' σ H Q → t σ H Q) : PO X e t' := ⟨fun pins s σ H Q I w => h.run pins s σ H Q I (q σ H Q w)⟩
def oNone : DO := fun σd => .ok (none, σd)
def oSome (de : DE) : DO := fun σd => (de σd).bind fun p => match p.1.d with
  | .int i => .ok (some i, p.2)
  | _ => .bad
def fSl : D → Option Int → Option Int → Option RV
  | .tup xs, lo, hi => some (.val (.tup (cutG xs lo hi)))
  | .lst xs, lo, hi => some (.own (cutG xs lo hi))
  | .scr ns, lo, hi => some (.own ((cutG ns lo hi).map .int))
  | _, _, _ => none
def eSl (da : DE) (dl dh : DO) : DE := fun σd => (da σd).bind fun p => (dl p.2).bind fun q => (dh q.2).bind fun s => match fSl p.1.d q.1 s.1 with
  | some z => .ok (z, s.2)
  | none => .bad
section
variable {X : Cx} {W : WX} {a b c e tg iter : Expr} {es rest : List Expr} {lo hi : Option Expr} {da db dc de : DE} {dt du : DT} {ds : DA} {dl dh : DO} {pos p2 : Pos}
variable {B B' : Addr → Prop} {ow : Nat → Addr} {σd σd' σd1 : PSt} {σ : L2.St} {H H' H1 : Hp} {v : V} {d : D}
theorem o_none : OX X W none oNone := PO.imp po_none fun σ H Q ⟨B, ow, σd, S, g⟩ => g none H ⟨Fr0.refl _ _ _, SubO.refl _, S, rfl⟩
theorem o_some (h : EX X W e de) : OX X W (some e) (oSome de) := by
  refine PO.imp (po_some h) fun σ H Q ⟨B, ow, σd, S, g⟩ => ?_
  refine Go.rdb S g fun p v H1 P g1 => ?_
  have r := P.rep
  split at g1
  · rename_i i e
    rw [e] at r
    exact ⟨i, r, g1 (some i) H1 ⟨Fr0.refl _ _ _, SubO.refl _, P.st, rfl⟩⟩
  · exact g1.elim
theorem cut_rep {K : PySem.W.Frag} {N : Addr → Prop} {ds : List D} {vs : List V} (r : RepL K H N ds vs) (l h : Option Int) : RepL K H N (cutG ds l h) (cutV vs l h) := by
  unfold cutG cutV
  rw [r.length]
  exact (r.drop _).take _
theorem sl_core {K : PySem.W.Frag} {dx : D} {l h : Option Int} {z : RV} {Q : VK} (S : StRel K B ow σd σ H) (r : Rep K H (NN B ow σd) dx v) (ez : fSl dx l h = some z) (q : ∀ u H', Post K B ow σd σ H z σd u H' → Q u H') : rSlA K v l h H Q ∨ rSlL K v l h H Q := by
  cases dx with
  | tup xs =>
    cases ez
    obtain ⟨t, vs, rfl, nt, ht, rt⟩ := r
    refine .inl ⟨t, vs, rfl, SqT.of ht, fun w => ?_, fun w n hn => q _ _ (post_newT S hn (cut_rep rt _ _))⟩
    have e3 : cutG xs l h = xs := by
      unfold cutG
      rw [← rt.length, w.1, w.2, rt.length]
      simp
    rw [e3] at q
    exact q _ _ (post_same S ⟨t, vs, rfl, nt, ht, rt⟩)
  | lst xs =>
    cases ez
    obtain ⟨t, vs, rfl, nt, ht, rt⟩ := r
    exact .inr ⟨t, vs, rfl, SqL.of ht, fun n hn => q _ _ (post_newL S hn (cut_rep rt _ _))⟩
  | scr ns =>
    cases ez
    obtain ⟨t, rfl, ht⟩ := sql_scr r
    refine .inr ⟨t, _, rfl, ht, fun n hn => q _ _ (post_newL S hn ?_)⟩
    rw [show cutV (ns.map V.int) l h = (cutG ns l h).map V.int from cutG_map _ _ _ _]
    exact RepL.of_ints _
  | _ => cases ez
theorem e_slice (ha : EX X W a da) (hl : OX X W lo dl) (hh : OX X W hi dh) : EX X W (.Subscript a (.Slice lo hi none p2) pos) (eSl da dl dh) := by
  refine ex_of (pe_slice (sl_tupA.or sl_list) ha hl hh) fun σ H Q B ow σd S g => ?_
  refine Go.rdb S g fun p v H1 P1 g1 => ?_
  refine Go.rdb P1.st g1 fun q l H2 P2 g2 => ?_
  refine Go.rdb P2.st g2 fun s h H3 P3 g3 => ?_
  have e1 : l = q.1 := P2.2.2.2
  have e2 : h = s.1 := P3.2.2.2
  subst e1
  subst e2
  have r := (P1.rep.keep P2.fr P2.sub).keep P3.fr P3.sub
  split at g3
  · rename_i z ez
    exact sl_core P3.st r ez g3
  · exact g3.elim

/-! ### calls of built-ins -/
theorem rd_L {r : List V → Hp → VK → Prop} {f : List D → Option RV} (hf : OpPL X.K r f) {Q : VK} (S : StRel X.K B ow σd σ H) (g : Go X.K X.mg W B ow σd σ H (eL f ds σd) Q) : tCB r (rd X.K X.mg W ds) σ H Q := by
  refine Go.rdb S g fun p vs H1 P g1 => ?_
  split at g1
  · rename_i z e
    exact hf B ow p.2 σ H1 _ z vs Q P.st P.repL e g1
  · exact g1.elim
theorem e_cb {x : Str} {p : Pos} {id : String} {r : List V → Hp → VK → Prop} {f : List D → Option RV} (hc : CallR X (.builtin id) r) (hf : OpPL X.K r f) (hg : Gl X x) (hm : X.mg x = none) (hv : bootBuiltins x = some (.builtin id)) (ha : AX X W (e :: es) ds) (hn : x ≠ "__name__" := by decide) (hdb : (x == ("__debug__" : Str)) = false := by decide)
    (he : starEach (e :: es) X.env = (false, eval e X.env) :: starEach es X.env := by rfl) (hpl : (backTo pos (starEach es X.env)).any (·.1) = false := by rfl) : EX X W (.Call (.Name x p) (e :: es) [] pos) (eL f ds) :=
  ex_of (pe_callB hc hg hm hv ha hn hdb he hpl) fun σ H Q B ow σd S g => rd_L hf S g
theorem e_cty {x : Str} {p : Pos} {T : String} {r : List V → Hp → VK → Prop} {f : List D → Option RV} (hc : CallR X (.type T) r) (hf : OpPL X.K r f) (hg : Gl X x) (hm : X.mg x = none) (hv : bootBuiltins x = some (.type T)) (ha : AX X W (e :: es) ds) (hn : x ≠ "__name__" := by decide) (hdb : (x == ("__debug__" : Str)) = false := by decide)
    (he : starEach (e :: es) X.env = (false, eval e X.env) :: starEach es X.env := by rfl) (hpl : (backTo pos (starEach es X.env)).any (·.1) = false := by rfl) : EX X W (.Call (.Name x p) (e :: es) [] pos) (eL f ds) :=
  ex_of (pe_callTy hc hg hm hv ha hn hdb he hpl) fun σ H Q B ow σd S g => rd_L hf S g
theorem repL1 {K : PySem.W.Frag} {N : Addr → Prop} {d : D} {vs : List V} (r : RepL K H N [d] vs) : ∃ v, vs = [v] ∧ Rep K H N d v := by
  obtain ⟨v, l, rfl, h, (rfl : l = [])⟩ := r
  exact ⟨v, rfl, h⟩
theorem repL2 {K : PySem.W.Frag} {N : Addr → Prop} {d d' : D} {vs : List V} (r : RepL K H N [d, d'] vs) : ∃ v u, vs = [v, u] ∧ Rep K H N d v ∧ Rep K H N d' u := by
  obtain ⟨v, l, rfl, h, u, l', rfl, h', (rfl : l' = [])⟩ := r
  exact ⟨v, u, rfl, h, h'⟩
def fLen : List D → Option RV
  | [.tup xs] => some (.val (.int xs.length))
  | [.lst xs] => some (.val (.int xs.length))
  | [.scr xs] => some (.val (.int xs.length))
  | _ => none
theorem opl_len : OpPL X.K (fun xs H Q => ∃ p ys, xs = [.ref p] ∧ (SqL X.K H p ys ∨ SqT X.K H p ys) ∧ Q (.int ys.length) H) fLen := by
  intro B ow σd σ H ds rz vs Q S r e q
  unfold fLen at e
  split at e
  · rename_i xs
    cases e
    obtain ⟨v, rfl, a, us, rfl, na, ha, ra⟩ := repL1 r
    refine ⟨a, us, rfl, .inr (SqT.of ha), ?_⟩
    rw [ra.length]
    exact q _ _ (post_same S rfl)
  · rename_i xs
    cases e
    obtain ⟨v, rfl, a, us, rfl, na, ha, ra⟩ := repL1 r
    refine ⟨a, us, rfl, .inl (SqL.of ha), ?_⟩
    rw [ra.length]
    exact q _ _ (post_same S rfl)
  · rename_i xs
    cases e
    obtain ⟨v, rfl, rv⟩ := repL1 r
    obtain ⟨a, rfl, hs⟩ := sql_scr rv
    refine ⟨a, _, rfl, .inl hs, ?_⟩
    rw [List.length_map]
    exact q _ _ (post_same S rfl)
  · cases e
def fInt : List D → Option RV
  | [.int i] => some (.val (.int i))
  | [.bl k] => some (.val (.int (if k then 1 else 0)))
  | _ => none
theorem opl_int : OpPL X.K (fun xs H Q => (∃ i, xs = [.int i] ∧ Q (.int i) H) ∨ ∃ k, xs = [.bl k] ∧ Q (.int (if k then 1 else 0)) H) fInt := by
  intro B ow σd σ H ds rz vs Q S r e q
  unfold fInt at e
  split at e
  · cases e
    obtain ⟨v, rfl, (rfl : v = _)⟩ := repL1 r
    exact .inl ⟨_, rfl, q _ _ (post_same S rfl)⟩
  · cases e
    obtain ⟨v, rfl, (rfl : v = _)⟩ := repL1 r
    exact .inr ⟨_, rfl, q _ _ (post_same S rfl)⟩
  · cases e
def fAbs : List D → Option RV
  | [.int i] => some (.val (.int (if i < 0 then -i else i)))
  | _ => none
theorem opl_abs : OpPL X.K (fun xs H Q => ∃ i, xs = [.int i] ∧ Q (.int (if i < 0 then -i else i)) H) fAbs := by
  intro B ow σd σ H ds rz vs Q S r e q
  unfold fAbs at e
  split at e
  · cases e
    obtain ⟨v, rfl, (rfl : v = _)⟩ := repL1 r
    exact ⟨_, rfl, q _ _ (post_same S rfl)⟩
  · cases e
def fMax2 : List D → Option RV
  | [.int i, .int j] => some (.val (.int (if j > i then j else i)))
  | _ => none
theorem opl_max2 : OpPL X.K (fun xs H Q => ∃ i j, xs = [.int i, .int j] ∧ Q (.int (if j > i then j else i)) H) fMax2 := by
  intro B ow σd σ H ds rz vs Q S r e q
  unfold fMax2 at e
  split at e
  · cases e
    obtain ⟨v, u, rfl, (rfl : v = _), (rfl : u = _)⟩ := repL2 r
    exact ⟨_, _, rfl, q _ _ (post_same S rfl)⟩
  · cases e
def fMin2 : List D → Option RV
  | [.int i, .int j] => some (.val (.int (if j < i then j else i)))
  | _ => none
theorem opl_min2 : OpPL X.K (fun xs H Q => ∃ i j, xs = [.int i, .int j] ∧ Q (.int (if j < i then j else i)) H) fMin2 := by
  intro B ow σd σ H ds rz vs Q S r e q
  unfold fMin2 at e
  split at e
  · cases e
    obtain ⟨v, u, rfl, (rfl : v = _), (rfl : u = _)⟩ := repL2 r
    exact ⟨_, _, rfl, q _ _ (post_same S rfl)⟩
  · cases e
def fDivmod : List D → Option RV
  | [.int i, .int j] => if 0 < j ∧ j < 1073741824 then some (.val (.tup [.int (i / j), .int (i % j)])) else none
  | _ => none
theorem opl_divmod : OpPL X.K (fun xs H Q => ∃ i j, xs = [.int i, .int j] ∧ CDiv i j ∧ ∀ p, H p = none → Q (.ref p) (upd H p (.tup [.int (i / j), .int (i % j)]))) fDivmod := by
  intro B ow σd σ H ds rz vs Q S r e q
  unfold fDivmod at e
  split at e
  · split at e
    · rename_i c
      cases e
      obtain ⟨v, u, rfl, (rfl : v = _), (rfl : u = _)⟩ := repL2 r
      exact ⟨_, _, rfl, c, fun p hp => q _ _ (post_newT S hp ⟨_, _, rfl, rfl, _, _, rfl, rfl, rfl⟩)⟩
    · cases e
  · cases e
/-- the whole numbers of a list -/
def intsD : List D → Option (List Int)
  | [] => some []
  | .int i :: r => (intsD r).map (i :: ·)
  | _ :: _ => none
theorem intsD_eq : ∀ {ds : List D} {ns : List Int}, intsD ds = some ns → ds = ns.map .int
  | [], ns, e => by cases e; rfl
  | .int i :: r, ns, e => by
    obtain ⟨ms, e1, rfl⟩ := map_some e
    rw [intsD_eq e1]
    rfl
  | .non :: _, _, e => by cases e
  | .bl _ :: _, _, e => by cases e
  | .str _ :: _, _, e => by cases e
  | .ty _ :: _, _, e => by cases e
  | .ref _ :: _, _, e => by cases e
  | .tup _ :: _, _, e => by cases e
  | .lst _ :: _, _, e => by cases e
  | .scr _ :: _, _, e => by cases e
theorem intsD_map (ns : List Int) : intsD (ns.map .int) = some ns := by
  induction ns with
  | nil => rfl
  | cons n r ih => show (intsD (r.map .int)).map (n :: ·) = _; rw [ih]; rfl
def bls : List D → Option (List Bool)
  | [] => some []
  | .bl i :: r => (bls r).map (i :: ·)
  | _ :: _ => none
theorem bls_eq : ∀ {ds : List D} {ns : List Bool}, bls ds = some ns → ds = ns.map .bl
  | [], ns, e => by cases e; rfl
  | .bl i :: r, ns, e => by
    obtain ⟨ms, e1, rfl⟩ := map_some e
    rw [bls_eq e1]
    rfl
  | .non :: _, _, e => by cases e
  | .int _ :: _, _, e => by cases e
  | .str _ :: _, _, e => by cases e
  | .ty _ :: _, _, e => by cases e
  | .ref _ :: _, _, e => by cases e
  | .tup _ :: _, _, e => by cases e
  | .lst _ :: _, _, e => by cases e
  | .scr _ :: _, _, e => by cases e
theorem bls_map (ns : List Bool) : bls (ns.map .bl) = some ns := by
  induction ns with
  | nil => rfl
  | cons n r ih => show (bls (r.map .bl)).map (n :: ·) = _; rw [ih]; rfl
theorem RepL.bls {K : PySem.W.Frag} {N : Addr → Prop} : ∀ {ns : List Bool} {vs : List V}, RepL K H N (ns.map D.bl) vs → vs = ns.map V.bl
  | [], vs, h => h
  | n :: ns, vs, h => by
    obtain ⟨v, r, rfl, (rfl : v = _), h2⟩ := h
    rw [RepL.bls h2]
    rfl
def fAll : List D → Option RV
  | [.lst xs] => (bls xs).map fun bs => .val (.bl (bs.all id))
  | _ => none
theorem opl_all : OpPL X.K (rAll X.K) fAll := by
  intro B ow σd σ H ds rz vs Q S r e q
  unfold fAll at e
  split at e
  · obtain ⟨bs, e1, rfl⟩ := map_some e
    rw [bls_eq e1] at r
    obtain ⟨v, rfl, a, us, rfl, na, ha, ra⟩ := repL1 r
    rw [ra.bls] at ha
    exact ⟨a, bs, rfl, SqL.of ha, q _ _ (post_same S rfl)⟩
  · cases e
def fAny : List D → Option RV
  | [.lst xs] => (bls xs).map fun bs => .val (.bl (bs.any id))
  | _ => none
theorem opl_any : OpPL X.K (rAny X.K) fAny := by
  intro B ow σd σ H ds rz vs Q S r e q
  unfold fAny at e
  split at e
  · obtain ⟨bs, e1, rfl⟩ := map_some e
    rw [bls_eq e1] at r
    obtain ⟨v, rfl, a, us, rfl, na, ha, ra⟩ := repL1 r
    rw [ra.bls] at ha
    exact ⟨a, bs, rfl, SqL.of ha, q _ _ (post_same S rfl)⟩
  · cases e
/-- the whole numbers of a list or the script -/
def seqInts : D → Option (List Int)
  | .lst xs => intsD xs
  | .scr ns => some ns
  | _ => none
theorem rep_seqInts {K : PySem.W.Frag} {N : Addr → Prop} {d : D} {v : V} {ns : List Int} (r : Rep K H N d v) (e : seqInts d = some ns) : ∃ a, v = .ref a ∧ SqL K H a (ns.map V.int) := by
  unfold seqInts at e
  split at e
  · rw [intsD_eq e] at r
    obtain ⟨a, us, rfl, na, ha, ra⟩ := r
    rw [ra.ints] at ha
    exact ⟨a, rfl, SqL.of ha⟩
  · cases e
    exact sql_scr r
  · cases e
def fSum : List D → Option RV
  | [d] => (seqInts d).map fun ns => .val (.int ns.sum)
  | _ => none
theorem opl_sum : OpPL X.K (rSum X.K) fSum := by
  intro B ow σd σ H ds rz vs Q S r e q
  unfold fSum at e
  split at e
  · obtain ⟨ns, e1, rfl⟩ := map_some e
    obtain ⟨v, rfl, rv⟩ := repL1 r
    obtain ⟨a, rfl, hs⟩ := rep_seqInts rv e1
    exact ⟨a, ns, rfl, hs, q _ _ (post_same S rfl)⟩
  · cases e
/-- the greatest, the least -/
def maxI : List Int → Option Int
  | [] => none
  | x :: r => some (r.foldl max x)
def minI : List Int → Option Int
  | [] => none
  | x :: r => some (r.foldl min x)
theorem foldl_max : ∀ (r : List Int) (x : Int), x ≤ r.foldl max x ∧ (∀ y ∈ r, y ≤ r.foldl max x) ∧ (r.foldl max x = x ∨ r.foldl max x ∈ r)
  | [], x => ⟨Int.le_refl _, (fun _ h => nomatch h), .inl rfl⟩
  | y :: r, x => by
    obtain ⟨h1, h2, h3⟩ := foldl_max r (max x y)
    refine ⟨Int.le_trans (Int.le_max_left _ _) h1, fun z hz => ?_, ?_⟩
    · rcases List.mem_cons.mp hz with e | hz
      · rw [e]
        exact Int.le_trans (Int.le_max_right x y) h1
      · exact h2 z hz
    · rcases h3 with h3 | h3
      · by_cases hxy : x ≤ y
        · right
          show List.foldl max (max x y) r ∈ y :: r
          rw [h3, Int.max_eq_right hxy]
          exact List.mem_cons_self
        · left
          show List.foldl max (max x y) r = x
          rw [h3, Int.max_eq_left (by omega)]
      · exact .inr (List.mem_cons_of_mem _ h3)
theorem foldl_min : ∀ (r : List Int) (x : Int), r.foldl min x ≤ x ∧ (∀ y ∈ r, r.foldl min x ≤ y) ∧ (r.foldl min x = x ∨ r.foldl min x ∈ r)
  | [], x => ⟨Int.le_refl _, (fun _ h => nomatch h), .inl rfl⟩
  | y :: r, x => by
    obtain ⟨h1, h2, h3⟩ := foldl_min r (min x y)
    refine ⟨Int.le_trans h1 (Int.min_le_left _ _), fun z hz => ?_, ?_⟩
    · rcases List.mem_cons.mp hz with e | hz
      · rw [e]
        exact Int.le_trans h1 (Int.min_le_right x y)
      · exact h2 z hz
    · rcases h3 with h3 | h3
      · by_cases hxy : y ≤ x
        · right
          show List.foldl min (min x y) r ∈ y :: r
          rw [h3, Int.min_eq_right hxy]
          exact List.mem_cons_self
        · left
          show List.foldl min (min x y) r = x
          rw [h3, Int.min_eq_left (by omega)]
      · exact .inr (List.mem_cons_of_mem _ h3)
theorem maxI_of {ns : List Int} {m k : Int} (h : maxI ns = some m) (hk : k ∈ ns) (hm : ∀ y ∈ ns, y ≤ k) : k = m := by
  cases ns with
  | nil => cases h
  | cons x r =>
    obtain ⟨h1, h2, h3⟩ := foldl_max r x
    have h : r.foldl max x = m := Option.some.inj h
    rw [h] at h1 h2 h3
    have a1 : m ≤ k := by
      rcases h3 with e | e
      · rw [e]; exact hm x List.mem_cons_self
      · exact hm m (List.mem_cons_of_mem _ e)
    rcases List.mem_cons.mp hk with e | e
    · rw [e] at a1 ⊢; omega
    · have := h2 k e; omega
theorem minI_of {ns : List Int} {m k : Int} (h : minI ns = some m) (hk : k ∈ ns) (hm : ∀ y ∈ ns, k ≤ y) : k = m := by
  cases ns with
  | nil => cases h
  | cons x r =>
    obtain ⟨h1, h2, h3⟩ := foldl_min r x
    have h : r.foldl min x = m := Option.some.inj h
    rw [h] at h1 h2 h3
    have a1 : k ≤ m := by
      rcases h3 with e | e
      · rw [e]; exact hm x List.mem_cons_self
      · exact hm m (List.mem_cons_of_mem _ e)
    rcases List.mem_cons.mp hk with e | e
    · rw [e] at a1 ⊢; omega
    · have := h2 k e; omega
def fMaxL : List D → Option RV
  | [d] => (seqInts d).bind fun ns => (maxI ns).map fun m => .val (.int m)
  | _ => none
def fMinL : List D → Option RV
  | [d] => (seqInts d).bind fun ns => (minI ns).map fun m => .val (.int m)
  | _ => none
theorem bind_some {α β : Type} {f : α → Option β} {o : Option α} {b : β} (h : o.bind f = some b) : ∃ a, o = some a ∧ f a = some b := by
  cases o with
  | none => cases h
  | some a => exact ⟨a, rfl, h⟩
theorem opl_max : OpPL X.K (rMax X.K) fMaxL := by
  intro B ow σd σ H ds rz vs Q S r e q
  unfold fMaxL at e
  split at e
  · obtain ⟨ns, e1, e2⟩ := bind_some e
    obtain ⟨m, e3, rfl⟩ := map_some e2
    obtain ⟨v, rfl, rv⟩ := repL1 r
    obtain ⟨a, rfl, hs⟩ := rep_seqInts rv e1
    refine ⟨a, ns, rfl, hs, ?_, fun k hk hm => ?_⟩
    · cases ns with
      | nil => cases e3
      | cons x r => exact Nat.succ_pos _
    · rw [maxI_of e3 hk hm]
      exact q _ _ (post_same S rfl)
  · cases e
theorem opl_min : OpPL X.K (rMin X.K) fMinL := by
  intro B ow σd σ H ds rz vs Q S r e q
  unfold fMinL at e
  split at e
  · obtain ⟨ns, e1, e2⟩ := bind_some e
    obtain ⟨m, e3, rfl⟩ := map_some e2
    obtain ⟨v, rfl, rv⟩ := repL1 r
    obtain ⟨a, rfl, hs⟩ := rep_seqInts rv e1
    refine ⟨a, ns, rfl, hs, ?_, fun k hk hm => ?_⟩
    · cases ns with
      | nil => cases e3
      | cons x r => exact Nat.succ_pos _
    · rw [minI_of e3 hk hm]
      exact q _ _ (post_same S rfl)
  · cases e
def fListOf : List D → Option RV
  | [.tup xs] => some (.own xs)
  | [.lst xs] => some (.own xs)
  | [.scr ns] => some (.own (ns.map .int))
  | _ => none
theorem opl_listOf : OpPL X.K (fun xs H Q => ∃ p ys, xs = [.ref p] ∧ (SqL X.K H p ys ∨ SqT X.K H p ys) ∧ ∀ l, H l = none → Q (.ref l) (upd H l (.lst ys))) fListOf := by
  intro B ow σd σ H ds rz vs Q S r e q
  unfold fListOf at e
  split at e
  · cases e
    obtain ⟨v, rfl, a, us, rfl, na, ha, ra⟩ := repL1 r
    exact ⟨a, us, rfl, .inr (SqT.of ha), fun l hl => q _ _ (post_newL S hl ra)⟩
  · cases e
    obtain ⟨v, rfl, a, us, rfl, na, ha, ra⟩ := repL1 r
    exact ⟨a, us, rfl, .inl (SqL.of ha), fun l hl => q _ _ (post_newL S hl ra)⟩
  · cases e
    obtain ⟨v, rfl, rv⟩ := repL1 r
    obtain ⟨a, rfl, hs⟩ := sql_scr rv
    exact ⟨a, _, rfl, .inl hs, fun l hl => q _ _ (post_newL S hl (RepL.of_ints _))⟩
  · cases e
def fTupleOf : List D → Option RV
  | [.tup xs] => some (.val (.tup xs))
  | [.lst xs] => some (.val (.tup xs))
  | _ => none
theorem opl_tupleOf : OpPL X.K (fun xs H Q => ∃ p ys, xs = [.ref p] ∧ ((SqL X.K H p ys ∧ ∀ l, H l = none → Q (.ref l) (upd H l (.tup ys))) ∨ (SqT X.K H p ys ∧ Q (.ref p) H))) fTupleOf := by
  intro B ow σd σ H ds rz vs Q S r e q
  unfold fTupleOf at e
  split at e
  · cases e
    obtain ⟨v, rfl, rv⟩ := repL1 r
    obtain ⟨a, us, rfl, na, ha, ra⟩ := id rv
    exact ⟨a, us, rfl, .inr ⟨SqT.of ha, q _ _ (post_same S rv)⟩⟩
  · cases e
    obtain ⟨v, rfl, a, us, rfl, na, ha, ra⟩ := repL1 r
    exact ⟨a, us, rfl, .inl ⟨SqL.of ha, fun l hl => q _ _ (post_newT S hl ra)⟩⟩
  · cases e
def fSorted : List D → Option RV
  | [.lst xs] => (intsD xs).map fun ns => .own ((ns.mergeSort (fun a b => decide (a ≤ b))).map .int)
  | _ => none
theorem perm_sorted_eq : ∀ {l1 l2 : List Int}, l1.Perm l2 → l1.Pairwise (· ≤ ·) → l2.Pairwise (· ≤ ·) → l1 = l2 := fun hp h1 h2 =>
  List.Perm.eq_of_pairwise (fun a b _ _ h h' => Int.le_antisymm h h') h1 h2 hp
end
end PL
/-! PL4: what is walked; comprehensions. -/
namespace PL
open PySem PySem.Spec PyProof.Rows L2

/-- the items of an iterator, as data -/
structure Itms where
  l : List D
/-- J walks the items ds as long as what was tracked at H0, outside N, stands -/
structure ItOk (K : PySem.W.Frag) (N : Addr → Prop) (H0 : Hp) (J : It) (ds : List D) : Prop where
  go : ∀ (i : Nat) (H : Hp), (∀ a o, H0 a = some o → ¬ N a → H a = some o) → i < ds.length → J.go i H
  yld : ∀ (i : Nat) (H H' : Hp) (x : V) (N' : Addr → Prop), (∀ a o, H0 a = some o → ¬ N a → H a = some o) → (∀ a, N' a → (N a ∨ H0 a = none) ∧ ∃ o, H a = some o) → i < ds.length → J.yld i H x H' → Grow H H' ∧ ∃ d, ds[i]? = some d ∧ Rep K H' N' d x
  stop : ∀ (i : Nat) (H : Hp), (∀ a o, H0 a = some o → ¬ N a → H a = some o) → ds.length ≤ i → J.stop i H
instance : Kd Itms It where
  fin := fun K B ow σ H a σd' J H' => StRel K B ow σd' σ H' ∧ ItOk K (NN B ow σd') H' J a.l
  up := fun _ h => h
  st := fun h => h.1
abbrev DI := PSt → Res (Itms × PSt)
def IX (X : Cx) (W : WX) (tg e : Expr) (d : DI) : Prop := PI X tg e (rd X.K X.mg W d)
theorem PI.imp {X : Cx} {tg e : Expr} {t t' : TI} (h : PI X tg e t) (q : ∀ σ H Q, t' σ H Q → t σ H Q) : PI X tg e t' := ⟨fun pins s σ H Q I w => h.run pins s σ H Q I (q σ H Q w)⟩

/-- a list or a tuple, walked -/
def iSeq (K : PySem.W.Frag) (tl : TE) : TI := fun σ H R => tl σ H fun x H1 => ∃ a, x = .ref a ∧ ((∃ xs, SqL K H1 a xs ∧ R (Itl K a) H1) ∨ (∃ xs, SqT K H1 a xs ∧ R (Itt K a) H1))
theorem pi_seq {X : Cx} {tg l : Expr} {tl : TE} (hl : PE X l tl) : PI X tg l (iSeq X.K tl) := by
  refine ⟨fun pins s σ H R I h => ?_⟩
  refine thn (hl.run pins s σ H _ I h) fun v s1 ⟨x, H1, I1, r1, q1⟩ => ?_
  obtain ⟨a, e, q⟩ := q1
  subst e
  cases r1
  rcases q with ⟨xs, hq, q⟩ | ⟨xs, hq, q⟩
  · obtain ⟨its, rv, p, hz⟩ := I1.list hq
    refine wpAny_pyIter_list p.isList ?_
    refine ⟨s1.heap.objs.size, [s1.heap.objs.size], _, _, H1, rfl, I1.kept (t' := s1.toks) fun b o e => Heap.get?_push_of_some _ e, turn_list a _, ⟨_, Heap.get?_push_size _ rfl, rfl, rfl⟩, fun b hb => ?_, q⟩
    have e : b = s1.heap.objs.size := by simpa using hb
    subst e
    exact I1.fpOk (Nat.le_refl _) (I1.hok.fresh (Nat.le_refl _))
  · obtain ⟨its, rv, p, hz⟩ := I1.tuple hq
    refine wpAny_pyIter_tuple (show s1.heap.IsTuple a its.toArray from p) ?_
    refine ⟨s1.heap.objs.size, [s1.heap.objs.size], _, _, H1, rfl, I1.kept (t' := s1.toks) fun b o e => Heap.get?_push_of_some _ e, turn_tuple a _, ⟨_, Heap.get?_push_size _ rfl, rfl, rfl⟩, fun b hb => ?_, q⟩
    have e : b = s1.heap.objs.size := by simpa using hb
    subst e
    exact I1.fpOk (Nat.le_refl _) (I1.hok.fresh (Nat.le_refl _))
/-- the items of what is walked -/
def seqD : D → Option (List D)
  | .tup xs => some xs
  | .lst xs => some xs
  | .scr ns => some (ns.map .int)
  | _ => none
def iOf (de : DE) : DI := fun σd => (de σd).bind fun p => match seqD p.1.d with
  | some l => .ok (⟨l⟩, p.2)
  | none => .bad
section
variable {X : Cx} {W : WX} {a b c e tg iter elt : Expr} {es rest : List Expr} {da db dc de : DE} {dt du : DT} {ds : DA} {di : DI} {pos p2 p : Pos}
variable {K : PySem.W.Frag} {mg : Str → Option Value} {B B' : Addr → Prop} {ow : Nat → Addr} {σd σd' σd1 : PSt} {σ : L2.St} {H H' H1 H0 : Hp} {v : V} {d : D} {N : Addr → Prop}
theorem ito_list {a : Addr} {vs : List V} {l : List D} (na : ¬ N a) (ha : H0 a = some (.lst vs)) (ra : RepL K H0 N l vs) : ItOk K N H0 (Itl K a) l := by
  refine ⟨fun i H f h => ?_, fun i H H' x N' f g h y => ?_, fun i H f h => ?_⟩
  · rw [← ra.length] at h
    exact ⟨vs, vs[i], SqL.of (f _ _ ha na), by simp [h]⟩
  · obtain ⟨e, y⟩ := y
    subst e
    have hx := y vs (SqL.of (f _ _ ha na))
    obtain ⟨d, e, r⟩ := ra.get' hx
    exact ⟨fun _ _ h => h, d, e, r.lift f fun a z => (g a z).1⟩
  · exact ⟨vs, SqL.of (f _ _ ha na), by rw [ra.length]; exact h⟩
theorem ito_tup {a : Addr} {vs : List V} {l : List D} (na : ¬ N a) (ha : H0 a = some (.tup vs)) (ra : RepL K H0 N l vs) : ItOk K N H0 (Itt K a) l := by
  refine ⟨fun i H f h => ?_, fun i H H' x N' f g h y => ?_, fun i H f h => ?_⟩
  · rw [← ra.length] at h
    exact ⟨vs, vs[i], SqT.of (f _ _ ha na), by simp [h]⟩
  · obtain ⟨e, y⟩ := y
    subst e
    have hx := y vs (SqT.of (f _ _ ha na))
    obtain ⟨d, e, r⟩ := ra.get' hx
    exact ⟨fun _ _ h => h, d, e, r.lift f fun a z => (g a z).1⟩
  · exact ⟨vs, SqT.of (f _ _ ha na), by rw [ra.length]; exact h⟩
theorem rep_scr_keep {ns : List Int} {a : Addr} (r : Rep K H0 N (.scr ns) (.ref a)) (f : ∀ a o, H0 a = some o → ¬ N a → H a = some o) : SqL K H a (ns.map V.int) := by
  obtain ⟨a', e, ⟨n, o, h⟩ | h⟩ := r
  · cases e
    exact .inl (.inr ⟨o, f _ _ h n⟩)
  · cases e
    exact .inr h
theorem ito_scr {a : Addr} {ns : List Int} (r : Rep K H0 N (.scr ns) (.ref a)) : ItOk K N H0 (Itl K a) (ns.map .int) := by
  refine ⟨fun i H f h => ?_, fun i H H' x N' f g h y => ?_, fun i H f h => ?_⟩
  · rw [List.length_map] at h
    exact ⟨_, .int ns[i], rep_scr_keep r f, by simp [h]⟩
  · obtain ⟨e, y⟩ := y
    subst e
    rw [List.length_map] at h
    have hx := y _ (rep_scr_keep r f)
    rw [List.getElem?_map, List.getElem?_eq_getElem h] at hx
    refine ⟨fun _ _ h => h, .int ns[i], by simp [h], ?_⟩
    exact (Option.some.inj hx).symm
  · exact ⟨_, rep_scr_keep r f, by simpa using h⟩
theorem i_seq (ha : EX X W a da) : IX X W tg a (iOf da) := by
  refine PI.imp (pi_seq ha) fun σ H R ⟨B, ow, σd, S, g⟩ => ?_
  refine Go.rdb S g fun p v H1 P g1 => ?_
  have r := P.rep
  cases hd : p.1.d with
  | tup xs =>
    rw [hd] at r g1
    obtain ⟨t, vs, rfl, nt, ht, rt⟩ := r
    exact ⟨t, rfl, .inr ⟨vs, SqT.of ht, g1 _ H1 ⟨Fr0.refl _ _ _, SubO.refl _, P.st, ito_tup nt ht rt⟩⟩⟩
  | lst xs =>
    rw [hd] at r g1
    obtain ⟨t, vs, rfl, nt, ht, rt⟩ := r
    exact ⟨t, rfl, .inl ⟨vs, SqL.of ht, g1 _ H1 ⟨Fr0.refl _ _ _, SubO.refl _, P.st, ito_list nt ht rt⟩⟩⟩
  | scr ns =>
    rw [hd] at r g1
    obtain ⟨t, rfl, ht⟩ := sql_scr r
    exact ⟨t, rfl, .inl ⟨_, ht, g1 _ H1 ⟨Fr0.refl _ _ _, SubO.refl _, P.st, ito_scr r⟩⟩⟩
  | _ =>
    rw [hd] at g1
    exact g1.elim
/-- lo, lo + c, .. -/
def rangeD (lo c : Int) (n : Nat) : List D := (List.range n).map fun (i : Nat) => D.int (lo + (i : Int) * c)
theorem rangeD_length (lo c : Int) (n : Nat) : (rangeD lo c n).length = n := by unfold rangeD; rw [List.length_map, List.length_range]
theorem ito_range {lo : Int} {n : Nat} : ItOk K N H0 (Itr lo n) (rangeD lo 1 n) := by
  refine ⟨fun i H f h => by rw [rangeD_length] at h; exact h, fun i H H' x N' f g h y => ?_, fun i H f h => by rw [rangeD_length] at h; exact h⟩
  obtain ⟨e, y⟩ := y
  subst e
  rw [rangeD_length] at h
  refine ⟨fun _ _ h => h, .int (lo + (i : Nat)), ?_, y⟩
  unfold rangeD
  rw [List.getElem?_map, List.getElem?_range h]
  simp
theorem ito_rangeC {lo c : Int} {n : Nat} : ItOk K N H0 (Itc lo c n) (rangeD lo c n) := by
  refine ⟨fun i H f h => by rw [rangeD_length] at h; exact h, fun i H H' x N' f g h y => ?_, fun i H f h => by rw [rangeD_length] at h; exact h⟩
  obtain ⟨e, y⟩ := y
  subst e
  rw [rangeD_length] at h
  refine ⟨fun _ _ h => h, .int (lo + (i : Nat) * c), ?_, y⟩
  unfold rangeD
  rw [List.getElem?_map, List.getElem?_range h]
  rfl
def big : Int := 1000000000
def iRange1 (da : DA) : DI := fun σd => (da σd).bind fun p => match p.1 with
  | [.int j] => if -big ≤ j ∧ j ≤ big then .ok (⟨rangeD 0 1 j.toNat⟩, p.2) else .bad
  | _ => .bad
def iRange2 (da : DA) : DI := fun σd => (da σd).bind fun p => match p.1 with
  | [.int i, .int j] => if -big ≤ i ∧ i ≤ big ∧ -big ≤ j ∧ j ≤ big then .ok (⟨rangeD i 1 (j - i).toNat⟩, p.2) else .bad
  | _ => .bad
/-- downwards by ones -/
def iRangeD (da : DA) : DI := fun σd => (da σd).bind fun p => match p.1 with
  | [.int i, .int j, .int c] => if -big ≤ i ∧ i ≤ big ∧ -big ≤ j ∧ j ≤ big ∧ c = -1 then .ok (⟨rangeD i (-1) (i - j).toNat⟩, p.2) else .bad
  | _ => .bad
theorem i_range1 (hg : Gl X "range") (hm : X.mg "range" = none) (ha : AX X W [a] ds) (hs : starEach [a] X.env = [(false, eval a X.env)] := by rfl) : IX X W tg (.Call (.Name "range" p) [a] [] pos) (iRange1 ds) := by
  refine PI.imp (pi_range1 hg hm ha hs) fun σ H R ⟨B, ow, σd, S, g⟩ => ?_
  refine Go.rdb S g fun p vs H1 P g1 => ?_
  have r := P.repL
  split at g1
  · rename_i j e
    rw [e] at r
    split at g1
    · rename_i c
      obtain ⟨v, rfl, (rfl : v = _)⟩ := repL1 r
      unfold big at c
      exact ⟨j, rfl, by omega, by omega, g1 _ H1 ⟨Fr0.refl _ _ _, SubO.refl _, P.st, ito_range⟩⟩
    · exact g1.elim
  · exact g1.elim
theorem i_range2 (hg : Gl X "range") (hm : X.mg "range" = none) (ha : AX X W [a, b] ds) (hs : starEach [a, b] X.env = [(false, eval a X.env), (false, eval b X.env)] := by rfl) (hs2 : starEach [b] X.env = [(false, eval b X.env)] := by rfl) : IX X W tg (.Call (.Name "range" p) [a, b] [] pos) (iRange2 ds) := by
  refine PI.imp (pi_range2 hg hm ha hs hs2) fun σ H R ⟨B, ow, σd, S, g⟩ => ?_
  refine Go.rdb S g fun p vs H1 P g1 => ?_
  have r := P.repL
  split at g1
  · rename_i i j e
    rw [e] at r
    split at g1
    · rename_i c
      obtain ⟨v, u, rfl, (rfl : v = _), (rfl : u = _)⟩ := repL2 r
      unfold big at c
      exact ⟨i, j, rfl, ⟨by omega, by omega, by omega, by omega⟩, g1 _ H1 ⟨Fr0.refl _ _ _, SubO.refl _, P.st, ito_range⟩⟩
    · exact g1.elim
  · exact g1.elim
theorem i_rangeD (hg : Gl X "range") (hm : X.mg "range" = none) (ha : AX X W [a, b, c] ds) (hs : starEach [a, b, c] X.env = (false, eval a X.env) :: starEach [b, c] X.env := by rfl) (hpl : (backTo pos (starEach [b, c] X.env)).any (·.1) = false := by rfl) : IX X W tg (.Call (.Name "range" p) [a, b, c] [] pos) (iRangeD ds) := by
  refine PI.imp (pi_range3 hg hm ha hs hpl) fun σ H R ⟨B, ow, σd, S, g⟩ => ?_
  refine Go.rdb S g fun p vs H1 P g1 => ?_
  have r := P.repL
  split at g1
  · rename_i i j k e
    rw [e] at r
    split at g1
    · rename_i c
      obtain ⟨v, l, rfl, (rfl : v = _), r2⟩ := r
      obtain ⟨u, w, rfl, (rfl : u = _), (rfl : w = _)⟩ := repL2 r2
      obtain ⟨c1, c2, c3, c4, rfl⟩ := c
      unfold big at c1 c2 c3 c4
      exact ⟨i, j, -1, _, rfl, RgC.neg (by omega) (by omega) (by omega) (by omega), g1 _ H1 ⟨Fr0.refl _ _ _, SubO.refl _, P.st, ito_rangeC⟩⟩
    · exact g1.elim
  · exact g1.elim

/-! ### targets -/
def Res.Ok {α : Type} (o : Res α) (k : α → Prop) : Prop := match o with
  | .ok a => k a
  | _ => False
theorem Res.Ok.get {α : Type} {o : Res α} {k : α → Prop} (h : o.Ok k) : ∃ a, o = .ok a ∧ k a := by
  cases o with
  | ok a => exact ⟨a, rfl, h⟩
  | exc c x => exact h.elim
  | bad => exact h.elim
theorem Res.Ok.bindG {α β : Type} {o : Res α} {f : α → Res β} {k : β → Prop} (h : (o.bind f).Ok k) : ∃ a, o = .ok a ∧ (f a).Ok k := by
  cases o with
  | ok a => exact ⟨a, rfl, h⟩
  | exc c x => exact h.elim
  | bad => exact h.elim
abbrev DG := D → PSt → Res PSt
/-- a reading of a target -/
def PostG (K : PySem.W.Frag) (B : Addr → Prop) (ow : Nat → Addr) (σd : PSt) (σ : L2.St) (H : Hp) (ts : List Nat) (σd' : PSt) (σ' : L2.St) (H' : Hp) : Prop := Fr0 ow σd H H' ∧ SubO σd σd' ∧ StRel K B ow σd' σ' H' ∧ (∀ j, j ∉ ts → σ'[j]? = σ[j]?) ∧ σ'.length = σ.length
def rdG (K : PySem.W.Frag) (ts : List Nat) (gd : DG) : TG := fun v σ H Q => ∃ B ow σd d, StRel K B ow σd σ H ∧ Rep K H (NN B ow σd) d v ∧ (gd d σd).Ok fun σd' => ∀ σ' H', PostG K B ow σd σ H ts σd' σ' H' → Q σ' H'
def GX (X : Cx) (e : Expr) (ts : List Nat) (gd : DG) : Prop := PG X e (rdG X.K ts gd)
theorem PG.imp {X : Cx} {e : Expr} {t t' : TG} (h : PG X e t) (q : ∀ v σ H Q, t' v σ H Q → t v σ H Q) : PG X e t' := ⟨fun pins s σ H v u Q I r w => h.run pins s σ H v u Q I r (q v σ H Q w)⟩
/-- a name: what it bore is lost -/
def gSet (i : Nat) : DG := fun d σd => match σd[i]? with
  | some (.own true _) => .bad
  | none => .bad
  | _ => .ok (σd.set i (.val d))
theorem sub_set {i : Nat} {d : D} : SubO σd (σd.set i (.val d)) := fun j c ys e => by
  rcases set_get e with ⟨_, z⟩ | ⟨_, z⟩
  · cases z
  · exact ⟨ys, z⟩
theorem StRel.setv {i : Nat} {v : V} (S : StRel K B ow σd σ H) (r : Rep K H (NN B ow σd) d v) (hi : i < σd.length) : StRel K B ow (σd.set i (.val d)) (σ.set i (some v)) H := by
  have gn : ∀ a, NN B ow (σd.set i (.val d)) a → NN B ow σd a := fun a z => SubO.nn sub_set z
  have ne : ∀ {j : Nat}, i ≠ j → (σ.set i (some v))[j]? = σ[j]? := fun n => List.getElem?_set_ne n
  refine ⟨by rw [List.length_set, List.length_set]; exact S.len, fun j d' e => ?_, fun j c ys e => ?_, fun j k c c' ys zs e e' q => ?_, fun j c ys e => ?_, S.bt⟩
  · rcases set_get e with ⟨z, q⟩ | ⟨n, z⟩
    · cases q
      subst z
      exact ⟨v, List.getElem?_set_self (by rw [← S.len]; exact hi), r.mono (fun _ _ h _ => h) gn⟩
    · obtain ⟨u, q, r'⟩ := S.val j d' z
      exact ⟨u, by rw [ne n]; exact q, r'.mono (fun _ _ h _ => h) gn⟩
  · rcases set_get e with ⟨_, z⟩ | ⟨n, z⟩
    · cases z
    · obtain ⟨us, q1, q2, r'⟩ := S.own j c ys z
      exact ⟨us, by rw [ne n]; exact q1, q2, RepL.mono (fun _ _ h _ => h) gn _ _ r'⟩
  · rcases set_get e with ⟨_, z⟩ | ⟨_, z⟩
    · cases z
    · rcases set_get e' with ⟨_, z'⟩ | ⟨_, z'⟩
      · cases z'
      · exact S.inj j k c c' ys zs z z' q
  · rcases set_get e with ⟨_, z⟩ | ⟨_, z⟩
    · cases z
    · exact S.nb j c ys z
theorem g_name {i : Nat} {x : Str} (h : PG X (.Name x pos) (gName i)) : GX X (.Name x pos) [i] (gSet i) := by
  refine PG.imp h fun v σ H Q ⟨B, ow, σd, d, S, r, g⟩ => ?_
  unfold gSet at g
  cases e : σd[i]? with
  | none => rw [e] at g; exact g.elim
  | some s =>
    have hi : i < σd.length := by
      by_cases hi : i < σd.length
      · exact hi
      · rw [List.getElem?_eq_none (by omega)] at e; cases e
    rw [e] at g
    cases s with
    | un => exact g _ H ⟨Fr0.refl _ _ _, sub_set, S.setv r hi, fun j hj => List.getElem?_set_ne fun z => hj (by simp [z]), List.length_set⟩
    | val _ => exact g _ H ⟨Fr0.refl _ _ _, sub_set, S.setv r hi, fun j hj => List.getElem?_set_ne fun z => hj (by simp [z]), List.length_set⟩
    | own b xs =>
      cases b with
      | true => exact g.elim
      | false => exact g _ H ⟨Fr0.refl _ _ _, sub_set, S.setv r hi, fun j hj => List.getElem?_set_ne fun z => hj (by simp [z]), List.length_set⟩
abbrev DGs := List D → PSt → Res PSt
def rdGs (K : PySem.W.Frag) (ts : List Nat) (gd : DGs) : TGs := fun vs σ H Q => ∃ B ow σd ds, StRel K B ow σd σ H ∧ RepL K H (NN B ow σd) ds vs ∧ (gd ds σd).Ok fun σd' => ∀ σ' H', PostG K B ow σd σ H ts σd' σ' H' → Q σ' H'
def GsX (X : Cx) (es : List Expr) (ts : List Nat) (gd : DGs) : Prop := PGs X es (rdGs X.K ts gd)
theorem PGs.imp {X : Cx} {e : List Expr} {t t' : TGs} (h : PGs X e t) (q : ∀ v σ H Q, t' v σ H Q → t v σ H Q) : PGs X e t' := ⟨fun pins s σ H v u Q I r w => h.run pins s σ H v u Q I r (q v σ H Q w)⟩
def gsNil : DGs := fun ds σd => match ds with
  | [] => .ok σd
  | _ => .bad
def gsCons (g : DG) (gs : DGs) : DGs := fun ds σd => match ds with
  | d :: r => (g d σd).bind (gs r)
  | [] => .bad
variable {gd : DG} {gs : DGs}
theorem gs_nil : GsX X [] [] gsNil := by
  refine PGs.imp pgs_nil fun vs σ H Q ⟨B, ow, σd, ds, S, r, g⟩ => ?_
  unfold gsNil at g
  cases ds with
  | nil => exact ⟨r, g σ H ⟨Fr0.refl _ _ _, SubO.refl _, S, fun _ _ => rfl, rfl⟩⟩
  | cons d l => exact g.elim
theorem gs_cons {ts us : List Nat} (h1 : GX X e ts gd) (h2 : GsX X es us gs) (hs : (assignEach (e :: es) X.env).map (·.2) = assign e X.env :: (assignEach es X.env).map (·.2) := by rfl) : GsX X (e :: es) (ts ++ us) (gsCons gd gs) := by
  refine PGs.imp (pgs_cons h1 h2 hs) fun vs σ H Q ⟨B, ow, σd, ds, S, r, g⟩ => ?_
  unfold gsCons at g
  cases ds with
  | nil => exact g.elim
  | cons d l =>
    obtain ⟨v, us, rfl, r1, r2⟩ := r
    refine ⟨v, us, rfl, B, ow, σd, d, S, r1, ?_⟩
    obtain ⟨σ1, e1, g⟩ := Res.Ok.bindG g
    rw [e1]
    intro σ' H' P
    refine ⟨B, ow, σ1, l, P.2.2.1, r2.keep P.1 P.2.1, ?_⟩
    obtain ⟨σ2, e2, g⟩ := g.get
    rw [e2]
    exact fun σ2' H2 P2 => g σ2' H2 ⟨P.1.trans P.2.1 P2.1, P.2.1.trans P2.2.1, P2.2.2.1, fun j hj => by rw [P2.2.2.2.1 j fun z => hj (List.mem_append_right _ z), P.2.2.2.1 j fun z => hj (List.mem_append_left _ z)], P2.2.2.2.2.trans P.2.2.2.2⟩
def gTupD (n : Nat) (gs : DGs) : DG := fun d σd => match d with
  | .tup ds => if ds.length = n then gs ds σd else .bad
  | _ => .bad
theorem g_tup {ts : List Nat} {k n : Nat} (hc : X.calm = true) (h : GsX X es ts gs) (hn : (assignEach es X.env).length = n := by rfl) (hst : (assignEach es X.env).findIdx? (·.1) = none := by rfl) : GX X (.Tuple es k pos) ts (gTupD n gs) := by
  refine PG.imp (pg_tup hc h hn hst) fun v σ H Q ⟨B, ow, σd, d, S, r, g⟩ => ?_
  unfold gTupD at g
  cases d with
  | tup ds =>
    obtain ⟨a, vs, rfl, na, ha, ra⟩ := r
    dsimp only at g
    split at g
    · rename_i c
      exact ⟨a, vs, rfl, SqT.of ha, by rw [ra.length]; exact c, B, ow, σd, ds, S, ra, g⟩
    · exact g.elim
  | _ => exact g.elim
/-- x[k] = d, x an owned list -/
def gSub (i : Nat) (dk : DE) : DG := fun d σd => match σd[i]? with
  | some (.own _ _) => (match dk σd with
    | .ok q => (match q.2[i]?, q.1.d with
      | some (.own b xs), .int k => (match ixN xs.length k with
        | some j => .ok (q.2.set i (.own b (xs.set j d)))
        | none => .bad)
      | _, _ => .bad)
    | _ => .bad)
  | _ => .bad
end
/-- an owned list is changed -/
theorem StRel.chg {K : PySem.W.Frag} {B : Addr → Prop} {ow : Nat → Addr} {σd : PSt} {σ : L2.St} {H : Hp} {i : Nat} {b : Bool} {xs ys : List D} {us : List V} (S : StRel K B ow σd σ H) (h : σd[i]? = some (SV.own b xs)) (r : RepL K H (NN B ow σd) ys us) :
    StRel K B ow (σd.set i (.own b ys)) σ (upd H (ow i) (.lst us)) ∧ Fr0 ow σd H (upd H (ow i) (.lst us)) ∧ SubO σd (σd.set i (.own b ys)) := by
  have hi : i < σd.length := by
    by_cases hi : i < σd.length
    · exact hi
    · rw [List.getElem?_eq_none (by omega)] at h; cases h
  have sub : SubO σd (σd.set i (.own b ys)) := fun j c zs e => by
    rcases set_get e with ⟨z, q⟩ | ⟨_, z⟩
    · cases q
      subst z
      exact ⟨xs, h⟩
    · exact ⟨zs, z⟩
  have gn : ∀ a, NN B ow (σd.set i (.own b ys)) a → NN B ow σd a := fun a z => sub.nn z
  have ni : NN B ow σd (ow i) := .inr ⟨i, b, xs, h, rfl⟩
  have f : ∀ a o, H a = some o → ¬ NN B ow σd a → (upd H (ow i) (.lst us)) a = some o := fun a o e n => by
    rw [upd_ne (fun z => n (by rw [z]; exact ni))]
    exact e
  obtain ⟨vs, e1, e2, _⟩ := S.own i b xs h
  refine ⟨⟨by rw [List.length_set]; exact S.len, fun j d' e => ?_, fun j c zs e => ?_, fun j k c c' y1 y2 e e' q => ?_, fun j c zs e => ?_, fun a z => ?_⟩, fun a o e => ⟨?_, fun n => ?_⟩, sub⟩
  · rcases set_get e with ⟨z, q⟩ | ⟨n, z⟩
    · cases q
    · obtain ⟨u, q, r'⟩ := S.val j d' z
      exact ⟨u, q, r'.mono f gn⟩
  · rcases set_get e with ⟨z, q⟩ | ⟨n, z⟩
    · cases q
      subst z
      exact ⟨us, e1, upd_same, RepL.mono f gn _ _ r⟩
    · obtain ⟨ws, q1, q2, r'⟩ := S.own j c zs z
      refine ⟨ws, q1, ?_, RepL.mono f gn _ _ r'⟩
      rw [upd_ne fun z' => n (S.inj i j b c xs zs h z z'.symm)]
      exact q2
  · obtain ⟨a1, h1⟩ := sub j c y1 e
    obtain ⟨a2, h2⟩ := sub k c' y2 e'
    exact S.inj j k c c' a1 a2 h1 h2 q
  · obtain ⟨a1, h1⟩ := sub j c zs e
    exact S.nb j c a1 h1
  · obtain ⟨o, q⟩ := S.bt a z
    exact ⟨o, by rw [upd_ne fun z' => S.nb i b xs h (by rw [← z']; exact z)]; exact q⟩
  · by_cases z : a = ow i
    · exact ⟨_, by rw [z, upd_same]⟩
    · exact ⟨o, by rw [upd_ne z]; exact e⟩
  · rw [upd_ne fun z => n ⟨i, b, xs, h, z.symm⟩]
    exact e
section
variable {X : Cx} {W : WX} {a b c e tg iter elt : Expr} {es rest : List Expr} {da db dc de dk : DE} {dt du : DT} {ds : DA} {di : DI} {pos p2 p : Pos}
variable {K : PySem.W.Frag} {mg : Str → Option Value} {B B' : Addr → Prop} {ow : Nat → Addr} {σd σd' σd1 : PSt} {σ : L2.St} {H H' H1 H0 : Hp} {v : V} {d : D} {N : Addr → Prop}
abbrev W0 : WX := fun _ _ _ _ => False
theorem g_sub {i : Nat} {x : Str} {xp : Pos} (hv : PE X (.Name x xp) (tVar i)) (hk : EX X W0 b dk)
    (ha : ∀ v, assign (.Subscript (.Name x xp) b pos) X.env v = (do
      let ov ← holding [v] (eval (.Name x xp) X.env)
      let iv ← holding [v, ov] (eval b X.env)
      standAt pos
      holding [v, ov, iv] (setItem ov iv v)
      release [v, ov, iv] []) := by intro _; rfl) : GX X (.Subscript (.Name x xp) b pos) [] (gSub i dk) := by
  refine PG.imp (pg_sub hv hk set_list ha) fun v σ H Q ⟨B, ow, σd, d, S, r, g⟩ => ?_
  unfold gSub at g
  split at g
  · rename_i t xs0 e0
    obtain ⟨vs0, es0, _, _⟩ := S.own i t xs0 e0
    refine ⟨.ref (ow i), es0, B, ow, σd, S, ?_⟩
    cases e1 : dk σd with
    | ok q =>
      rw [e1] at g
      intro u H1 P
      have ry := P.rep
      dsimp only at g
      split at g
      · rename_i t2 xs k e2 e3
        have ry : Rep X.K H1 (NN B ow q.2) q.1.d u := ry
        rw [e3] at ry
        obtain ⟨vs, e4, hl, rl⟩ := P.st.own i t2 xs e2
        split at g
        · rename_i j ej
          refine ⟨ow i, vs, k, j, rfl, ry, hl, by rw [rl.length]; exact ej, ?_⟩
          obtain ⟨S', f', s'⟩ := P.st.chg e2 (rl.set (r.keep P.fr P.sub) j)
          exact g _ _ ⟨P.fr.trans P.sub f', P.sub.trans s', S', fun _ _ => rfl, rfl⟩
        · exact g.elim
      · exact g.elim
    | exc c x => rw [e1] at g; exact g.elim
    | bad => rw [e1] at g; exact g.elim
  · exact g.elim
end
end PL
/-! PL5: comprehensions. -/
namespace PL
open PySem PySem.Spec PyProof.Rows L2
def wipeD (σd : PSt) : List Nat → PSt
  | [] => σd
  | v :: vs => (wipeD σd vs).set v .un
def unwipe (σ0 σw : PSt) : List Nat → PSt
  | [] => σw
  | v :: vs => (unwipe σ0 σw vs).set v ((σ0[v]?).getD .un)
def noOwn (σd : PSt) (vs : List Nat) : Bool := vs.all fun v => match σd[v]? with
  | some (.own _ _) => false
  | _ => true
theorem wipeD_len (σd : PSt) : ∀ vs : List Nat, (wipeD σd vs).length = σd.length
  | [] => rfl
  | v :: vs => by unfold wipeD; rw [List.length_set, wipeD_len σd vs]
theorem unwipe_len (σ0 σw : PSt) : ∀ vs : List Nat, (unwipe σ0 σw vs).length = σw.length
  | [] => rfl
  | v :: vs => by unfold unwipe; rw [List.length_set, unwipe_len σ0 σw vs]
theorem wipeD_get {σd : PSt} {i : Nat} {s : SV} : ∀ {vs : List Nat}, (wipeD σd vs)[i]? = some s → (i ∈ vs ∧ s = .un) ∨ (i ∉ vs ∧ σd[i]? = some s)
  | [], h => .inr ⟨by simp, h⟩
  | v :: vs, h => by
    unfold wipeD at h
    rcases set_get h with ⟨e, q⟩ | ⟨n, q⟩
    · exact .inl ⟨by simp [e], q⟩
    · rcases wipeD_get q with ⟨e, q⟩ | ⟨n2, q⟩
      · exact .inl ⟨List.mem_cons_of_mem _ e, q⟩
      · exact .inr ⟨fun z => (List.mem_cons.mp z).elim (fun z => n z.symm) n2, q⟩
theorem unwipe_get {σ0 σw : PSt} {i : Nat} {s : SV} : ∀ {vs : List Nat}, (unwipe σ0 σw vs)[i]? = some s → (i ∈ vs ∧ s = (σ0[i]?).getD .un) ∨ (i ∉ vs ∧ σw[i]? = some s)
  | [], h => .inr ⟨by simp, h⟩
  | v :: vs, h => by
    unfold unwipe at h
    rcases set_get h with ⟨e, q⟩ | ⟨n, q⟩
    · exact .inl ⟨by simp [e], by rw [← e]; exact q⟩
    · rcases unwipe_get q with ⟨e, q⟩ | ⟨n2, q⟩
      · exact .inl ⟨List.mem_cons_of_mem _ e, q⟩
      · exact .inr ⟨fun z => (List.mem_cons.mp z).elim (fun z => n z.symm) n2, q⟩
theorem noOwn_of {σd : PSt} {vs : List Nat} (h : noOwn σd vs = true) {i : Nat} (hi : i ∈ vs) {b : Bool} {xs : List D} : σd[i]? ≠ some (SV.own b xs) := fun e => by
  have q := List.all_eq_true.mp h i hi
  rw [e] at q
  cases q
theorem wipe_eq {σ σ' : L2.St} {vs : List Nat} (hl : σ'.length = σ.length) (h : ∀ j, j ∉ vs → σ'[j]? = σ[j]?) : wipe σ' vs = wipe σ vs := by
  apply List.ext_getElem?
  intro i
  by_cases hi : i ∈ vs
  · have : ∀ (τ : L2.St), (wipe τ vs)[i]? = if i < τ.length then some none else none := by
      intro τ
      clear h hl
      induction vs with
      | nil => cases hi
      | cons v vs ih =>
        unfold wipe
        by_cases e : v = i
        · subst e
          by_cases hv : v < τ.length
          · rw [List.getElem?_set_self (by rw [wipe_length]; exact hv), if_pos hv]
          · rw [List.getElem?_eq_none (by rw [List.length_set, wipe_length]; omega), if_neg hv]
        · rw [List.getElem?_set_ne e]
          exact ih ((List.mem_cons.mp hi).elim (fun z => absurd z.symm e) id)
    rw [this, this, hl]
  · rw [wipe_out hi, wipe_out hi]
    exact h i hi
theorem wiped_no (σd : PSt) (vs : List Nat) : noOwn (wipeD σd vs) vs = true := List.all_eq_true.mpr fun i hi => by
  cases q : (wipeD σd vs)[i]? with
  | none => rfl
  | some s =>
    rcases wipeD_get q with ⟨_, z⟩ | ⟨z, _⟩
    · rw [z]
    · exact absurd hi z
section
variable {K : PySem.W.Frag} {mg : Str → Option Value} {B B' : Addr → Prop} {ow : Nat → Addr} {σd σd' σd1 : PSt} {σ : L2.St} {H H' H1 H0 : Hp} {v : V} {d : D} {N : Addr → Prop}
theorem wipe_ownA {vs : List Nat} {a : Addr} (h : OwnA ow (wipeD σd vs) a) : OwnA ow σd a := by
  obtain ⟨i, b, xs, e, q⟩ := h
  rcases wipeD_get e with ⟨_, z⟩ | ⟨_, z⟩
  · cases z
  · exact ⟨i, b, xs, z, q⟩
theorem ownA_wipe {vs : List Nat} (hn : noOwn σd vs = true) {a : Addr} (h : OwnA ow σd a) : OwnA ow (wipeD σd vs) a := by
  obtain ⟨i, b, xs, e, q⟩ := h
  have hi : i ∉ vs := fun z => noOwn_of hn z e
  refine ⟨i, b, xs, ?_, q⟩
  have hl : i < (wipeD σd vs).length := by
    rw [wipeD_len]
    by_cases hi : i < σd.length
    · exact hi
    · rw [List.getElem?_eq_none (by omega)] at e; cases e
  have e2 : (wipeD σd vs)[i]? = some ((wipeD σd vs)[i]) := List.getElem?_eq_getElem hl
  rcases wipeD_get e2 with ⟨z, _⟩ | ⟨_, z⟩
  · exact absurd z hi
  · rw [e2, ← z]
    exact e
theorem StRel.wipe {vs : List Nat} (S : StRel K B ow σd σ H) : StRel K B ow (wipeD σd vs) (L2.wipe σ vs) H := by
  have gn : ∀ a, NN B ow (wipeD σd vs) a → NN B ow σd a := fun a z => z.elim .inl fun z => .inr (wipe_ownA z)
  refine ⟨by rw [wipeD_len, wipe_length]; exact S.len, fun i d e => ?_, fun i b xs e => ?_, fun i j b b' xs ys e e' q => ?_, fun i b xs e => ?_, S.bt⟩
  · rcases wipeD_get e with ⟨_, z⟩ | ⟨n, z⟩
    · cases z
    · obtain ⟨v, q, r⟩ := S.val i d z
      exact ⟨v, by rw [wipe_out n]; exact q, r.mono (fun _ _ h _ => h) gn⟩
  · rcases wipeD_get e with ⟨_, z⟩ | ⟨n, z⟩
    · cases z
    · obtain ⟨vs', q1, q2, r⟩ := S.own i b xs z
      exact ⟨vs', by rw [wipe_out n]; exact q1, q2, RepL.mono (fun _ _ h _ => h) gn _ _ r⟩
  · rcases wipeD_get e with ⟨_, z⟩ | ⟨n, z⟩
    · cases z
    · rcases wipeD_get e' with ⟨_, z'⟩ | ⟨n', z'⟩
      · cases z'
      · exact S.inj i j b b' xs ys z z' q
  · rcases wipeD_get e with ⟨_, z⟩ | ⟨n, z⟩
    · cases z
    · exact S.nb i b xs z
/-- an object that is shut out is changed -/
theorem StRel.upB {p : Addr} {o : HO} (S : StRel K B ow σd σ H) (hp : B p) : StRel K B ow σd σ (upd H p o) := by
  have f : ∀ a u, H a = some u → ¬ NN B ow σd a → (upd H p o) a = some u := fun a u e n => by
    rw [upd_ne fun z => n (.inl (by rw [z]; exact hp))]
    exact e
  refine ⟨S.len, fun i d e => ?_, fun i b xs e => ?_, S.inj, S.nb, fun a z => ?_⟩
  · obtain ⟨v, q, r⟩ := S.val i d e
    exact ⟨v, q, r.mono f fun _ z => z⟩
  · obtain ⟨vs, q1, q2, r⟩ := S.own i b xs e
    exact ⟨vs, q1, by rw [upd_ne fun z => S.nb i b xs e (by rw [z]; exact hp)]; exact q2, RepL.mono f (fun _ z => z) _ _ r⟩
  · by_cases z' : a = p
    · exact ⟨o, by rw [z', upd_same]⟩
    · obtain ⟨u, q⟩ := S.bt a z
      exact ⟨u, by rw [upd_ne z']; exact q⟩
/-- back from a block -/
theorem StRel.unwipe {σ0 σw : PSt} {vs : List Nat} {p : Addr} (S0 : StRel K B ow σ0 σ H0) (Sw : StRel K (Bp B p) ow σw (L2.wipe σ vs) H) (f : Fr0 ow σ0 H0 H) (sb : SubO σ0 σw) (n0 : noOwn σ0 vs = true) (nw : noOwn σw vs = true) (hp : H0 p = none) :
    StRel K (Bp B p) ow (PL.unwipe σ0 σw vs) σ H ∧ SubO σ0 (PL.unwipe σ0 σw vs) ∧ ∀ a, NN (Bp B p) ow (PL.unwipe σ0 σw vs) a → NN (Bp B p) ow σw a := by
  have own_ : ∀ (i : Nat) (b : Bool) (xs : List D), (PL.unwipe σ0 σw vs)[i]? = some (SV.own b xs) → i ∉ vs ∧ σw[i]? = some (SV.own b xs) := fun i b xs e => by
    rcases unwipe_get e with ⟨hi, z⟩ | z
    · cases q : σ0[i]? with
      | none => rw [q] at z; cases z
      | some s =>
        rw [q] at z
        have z : SV.own b xs = s := z
        subst z
        exact absurd q (noOwn_of n0 hi)
    · exact z
  have gn : ∀ a, NN (Bp B p) ow (PL.unwipe σ0 σw vs) a → NN (Bp B p) ow σw a := fun a z => z.elim .inl fun ⟨i, b, xs, e, q⟩ => .inr ⟨i, b, xs, (own_ i b xs e).2, q⟩
  refine ⟨⟨by rw [unwipe_len, Sw.len, wipe_length], fun i d e => ?_, fun i b xs e => ?_, fun i j b b' xs ys e e' q => ?_, fun i b xs e => ?_, Sw.bt⟩, fun i b xs e => ?_, gn⟩
  · rcases unwipe_get e with ⟨hi, z⟩ | ⟨n, z⟩
    · cases q : σ0[i]? with
      | none => rw [q] at z; cases z
      | some s =>
        rw [q] at z
        have z : SV.val d = s := z
        subst z
        obtain ⟨v, e1, r⟩ := S0.val i d q
        refine ⟨v, e1, r.lift (fun a o e n => f.at e fun z => n (.inr z)) fun a z => ?_⟩
        rcases gn a z with (z | z) | z
        · exact .inl (.inl z)
        · rw [z]; exact .inr hp
        · exact .inl (.inr (sb.ownA z))
    · obtain ⟨v, e1, r⟩ := Sw.val i d z
      exact ⟨v, by rw [wipe_out n] at e1; exact e1, r.mono (fun _ _ h _ => h) gn⟩
  · obtain ⟨n, z⟩ := own_ i b xs e
    obtain ⟨us, e1, e2, r⟩ := Sw.own i b xs z
    exact ⟨us, by rw [wipe_out n] at e1; exact e1, e2, RepL.mono (fun _ _ h _ => h) gn _ _ r⟩
  · exact Sw.inj i j b b' xs ys (own_ i b xs e).2 (own_ j b' ys e').2 q
  · exact Sw.nb i b xs (own_ i b xs e).2
  · exact sb i b xs (own_ i b xs e).2
end
/-- the turns of a list comprehension -/
def lcGo (g : DG) (dt : DT) (de : DE) (vs : List Nat) : List D → PSt → List D → Res (List D × PSt)
  | [], σ, acc => .ok (acc, σ)
  | d :: ds, σ, acc => match g d σ with
    | .ok σ1 => (match dt σ1 with
      | .ok (true, σ2) => (match de σ2 with
        | .ok (r, σ3) => if noOwn σ3 vs = true ∧ acc.length < most then lcGo g dt de vs ds (wipeD σ3 vs) (acc ++ [r.d]) else .bad
        | _ => .bad)
      | .ok (false, σ2) => if noOwn σ2 vs = true then lcGo g dt de vs ds (wipeD σ2 vs) acc else .bad
      | _ => .bad)
    | _ => .bad
def eLc (di : DI) (g : DG) (dt : DT) (de : DE) (vs : List Nat) : DE := fun σd => (di σd).bind fun p => if noOwn p.2 vs = true then (match lcGo g dt de vs p.1.l (wipeD p.2 vs) [] with
  | .ok q => if noOwn q.2 vs = true then .ok (.own q.1, unwipe p.2 q.2 vs) else .bad
  | _ => .bad) else .bad
def TsX (X : Cx) (W : WX) (es : List Expr) (d : DT) : Prop := PTs X es (rd X.K X.mg W d)
def tTrue : DT := fun σd => .ok (true, σd)
theorem PTs.imp {X : Cx} {e : List Expr} {t t' : TT} (h : PTs X e t) (q : ∀ σ H Q, t' σ H Q → t σ H Q) : PTs X e t' := ⟨fun pins s σ H Q I w => h.run pins s σ H Q I (q σ H Q w)⟩
theorem ts_nil {X : Cx} {W : WX} : TsX X W [] tTrue := PTs.imp pts_nil fun σ H Q ⟨B, ow, σd, S, g⟩ => g true H ⟨Fr0.refl _ _ _, SubO.refl _, S, rfl⟩
theorem ts_one {X : Cx} {W : WX} {c : Expr} {dt : DT} (h : TX X W c dt) : TsX X W [c] dt := pts_one h
theorem rd_lc {K : PySem.W.Frag} {mg : Str → Option Value} {W : WX} {B : Addr → Prop} {ow : Nat → Addr} {σd : PSt} {σ : L2.St} {H : Hp} {Q : VK} {di : DI} {gd : DG} {dt : DT} {de : DE} {vs ts : List Nat} (hts : ∀ i ∈ ts, i ∈ vs)
    (S : StRel K B ow σd σ H) (g : Go K mg W B ow σd σ H (eLc di gd dt de vs σd) Q) : tLc (rd K mg W di) (rdG K ts gd) (rd K mg W0 dt) (rd K mg W0 de) vs σ H Q := by
  refine Go.rdb S g fun p J H1 P g1 => ?_
  obtain ⟨fr, sb, S1, IO⟩ := P
  split at g1
  · rename_i n0
    intro D hD
    have IO : ItOk K (NN B ow p.2) H1 J p.1.l := IO
    obtain ⟨res, σf, hlc, g2⟩ : ∃ res σf, lcGo gd dt de vs p.1.l (wipeD p.2 vs) [] = .ok (res, σf) ∧ Go K mg W B ow p.2 σ H1 (if noOwn σf vs = true then .ok (RV.own res, unwipe p.2 σf vs) else .bad) Q := by
      cases e : lcGo gd dt de vs p.1.l (wipeD p.2 vs) [] with
      | ok q => rw [e] at g1; exact ⟨q.1, q.2, rfl, g1⟩
      | exc c x => rw [e] at g1; exact g1.elim
      | bad => rw [e] at g1; exact g1.elim
    refine ⟨fun i m H => m = p.1.l.length - i ∧ i ≤ p.1.l.length ∧ ∃ σw acc av, lcGo gd dt de vs (p.1.l.drop i) σw acc = .ok (res, σf) ∧ StRel K (Bp B D) ow σw (wipe σ vs) H ∧ H D = some (.lst av) ∧ RepL K H (NN (Bp B D) ow σw) acc av ∧ Fr0 ow p.2 H1 H ∧ SubO p.2 σw ∧ noOwn σw vs = true,
      ⟨p.1.l.length, rfl, Nat.zero_le _, wipeD p.2 vs, [], [], hlc, (S1.shut hD).wipe, upd_same, rfl, Fr0.new hD, fun i b xs e => ?_, ?_⟩, ?_⟩
    · rcases wipeD_get e with ⟨_, z⟩ | ⟨_, z⟩
      · cases z
      · exact ⟨xs, z⟩
    · exact wiped_no _ _
    · rintro i m H ⟨rfl, hi, σw, acc, av, hl, Sw, hDv, ra, fw, sw, nw⟩
      have ext : ∀ a o, H1 a = some o → ¬ NN B ow p.2 a → H a = some o := fun a o e n => fw.at e fun z => n (.inr z)
      by_cases hlt : i < p.1.l.length
      · refine .inr ⟨IO.go i H ext hlt, fun H' => i + 1 ≤ p.1.l.length ∧ ∃ σw acc av, lcGo gd dt de vs (p.1.l.drop (i + 1)) σw acc = .ok (res, σf) ∧ StRel K (Bp B D) ow σw (wipe σ vs) H' ∧ H' D = some (.lst av) ∧ RepL K H' (NN (Bp B D) ow σw) acc av ∧ Fr0 ow p.2 H1 H' ∧ SubO p.2 σw ∧ noOwn σw vs = true, fun H' h => ⟨p.1.l.length - (i + 1), by omega, rfl, h⟩, fun x H' y => ?_⟩
        have trk : ∀ a, NN (Bp B D) ow σw a → (NN B ow p.2 a ∨ H1 a = none) ∧ ∃ o, H a = some o := fun a z => by
          rcases z with z | z
          · refine ⟨?_, Sw.bt a z⟩
            rcases z with z | z
            · exact .inl (.inl z)
            · rw [z]; exact .inr hD
          · refine ⟨.inl (.inr (sw.ownA z)), ?_⟩
            obtain ⟨vs', q⟩ := Sw.there z
            exact ⟨_, q⟩
        obtain ⟨gr, d, hd, rx⟩ := IO.yld i H H' x (NN (Bp B D) ow σw) ext trk hlt y
        have ed : p.1.l.drop i = d :: p.1.l.drop (i + 1) := by
          rw [List.drop_eq_getElem_cons hlt]
          rw [List.getElem?_eq_getElem hlt] at hd
          rw [Option.some.inj hd]
        rw [ed] at hl
        unfold lcGo at hl
        have Sw' : StRel K (Bp B D) ow σw (wipe σ vs) H' := Sw.grow gr
        have f' : Fr0 ow p.2 H1 H' := fw.trans sw (gr.fr _ _)
        have ra' : RepL K H' (NN (Bp B D) ow σw) acc av := RepL.mono (fun a o e _ => gr a o e) (fun _ z => z) _ _ ra
        have hD' : H' D = some (.lst av) := gr _ _ hDv
        cases e1 : gd d σw with
        | ok σ1 =>
          rw [e1] at hl
          dsimp only at hl
          refine ⟨Bp B D, ow, σw, d, Sw', rx, ?_⟩
          rw [e1]
          intro σ2 H2 PG
          obtain ⟨f2, s2, S2, k2, l2⟩ := PG
          have hw : wipe σ2 vs = wipe σ vs := by
            have h1 : wipe σ2 vs = wipe (wipe σ vs) vs := wipe_eq l2 fun j hj => k2 j fun z => hj (hts j z)
            have h2 : wipe (wipe σ vs) vs = wipe σ vs := wipe_eq (wipe_length σ vs) fun j hj => wipe_out hj
            exact h1.trans h2
          refine ⟨hw, Bp B D, ow, σ1, S2, ?_⟩
          have fD : ∀ {Ha Hb : Hp} {τ : PSt} {σa : L2.St}, StRel K (Bp B D) ow τ σa Ha → Fr0 ow τ Ha Hb → Ha D = some (.lst av) → Hb D = some (.lst av) := fun {Ha Hb τ σa} Sx fx h => fx.at h fun ⟨j, b, xs, e, q⟩ => Sx.nb j b xs e (.inr q)
          have hD2 := fD Sw' f2 hD'
          cases e2 : dt σ1 with
          | ok q =>
            obtain ⟨c, σ3⟩ := q
            rw [e2] at hl
            intro b H3 PB
            have eb := PB.bool
            subst eb
            have S3 := PB.st
            have hD3 := fD S2 PB.fr hD2
            have ra3 := (ra'.keep f2 s2).keep PB.fr PB.sub
            have f3 : Fr0 ow p.2 H1 H3 := (f'.trans sw f2).trans (sw.trans s2) PB.fr
            cases b with
            | false =>
              dsimp only at hl
              show (if false = true then _ else _)
              rw [if_neg Bool.false_ne_true]
              split at hl
              · rename_i n3
                refine ⟨hlt, wipeD σ3 vs, acc, av, hl, ?_, hD3, RepL.mono (fun _ _ h _ => h) (fun a z => z.elim .inl fun z => .inr (wipe_ownA z)) _ _ ra3, f3, ?_, ?_⟩
                · rw [← hw]; exact S3.wipe
                · intro i' b' xs' e'
                  rcases wipeD_get e' with ⟨_, z⟩ | ⟨_, z⟩
                  · cases z
                  · exact (sw.trans (s2.trans PB.sub)) i' b' xs' z
                · exact wiped_no _ _
              · cases hl
            | true =>
              dsimp only at hl
              show (if true = true then _ else _)
              rw [if_pos rfl]
              refine ⟨Bp B D, ow, σ3, S3, ?_⟩
              cases e3 : de σ3 with
              | ok q =>
                obtain ⟨r, σ4⟩ := q
                rw [e3] at hl
                dsimp only at hl
                split at hl
                · rename_i n4
                  intro y H4 PE
                  have S4 := PE.st
                  have hD4 := fD S3 PE.fr hD3
                  have ra4 := ra3.keep PE.fr PE.sub
                  have f4 : Fr0 ow p.2 H1 H4 := f3.trans (sw.trans (s2.trans PB.sub)) PE.fr
                  have up : ∀ a o, H4 a = some o → ¬ NN (Bp B D) ow σ4 a → (upd H4 D (.lst (av ++ [y]))) a = some o := fun a o e n => by
                    rw [upd_ne fun z => n (.inl (.inr z))]
                    exact e
                  refine ⟨av, hD4, by rw [ra4.length]; exact most_lt n4.2, hlt, wipeD σ4 vs, acc ++ [r.d], av ++ [y], hl, ?_, upd_same, ?_, ?_, ?_, wiped_no _ _⟩
                  · rw [← hw]; exact (S4.upB (.inr rfl)).wipe
                  · refine RepL.mono up (fun a z => z.elim .inl fun z => .inr (wipe_ownA z)) _ _ (ra4.append ⟨y, [], rfl, PE.rep, rfl⟩)
                  · intro a o e
                    have n : a ≠ D := ne_of_none e hD
                    obtain ⟨h1, h2⟩ := f4 a o e
                    rw [upd_ne n]
                    exact ⟨h1, h2⟩
                  · intro i' b' xs' e'
                    rcases wipeD_get e' with ⟨_, z⟩ | ⟨_, z⟩
                    · cases z
                    · exact (sw.trans (s2.trans (PB.sub.trans PE.sub))) i' b' xs' z
                · cases hl
              | exc c x => rw [e3] at hl; cases hl
              | bad => rw [e3] at hl; cases hl
          | exc c x => rw [e2] at hl; cases hl
          | bad => rw [e2] at hl; cases hl
        | exc c x => rw [e1] at hl; cases hl
        | bad => rw [e1] at hl; cases hl
      · have ei : i = p.1.l.length := by omega
        subst ei
        rw [List.drop_length] at hl
        unfold lcGo at hl
        cases hl
        refine .inl ⟨IO.stop _ H ext (Nat.le_refl _), ?_⟩
        rw [if_pos nw] at g2
        obtain ⟨SU, sU, gU⟩ := StRel.unwipe S1 Sw fw sw n0 nw hD
        refine g2 _ H ⟨fw, sU, D, av, rfl, hD, S1.nB hD, hDv, SU, RepL.mono (fun _ _ h _ => h) gU _ _ ra⟩
  · exact g1.elim
section
variable {X : Cx} {W : WX} {elt tg iter : Expr} {ifs : List Expr} {scope : Scope} {own : List (Str × Nat)} {pos spos : Pos} {di : DI} {gd : DG} {dt : DT} {de : DE} {ts : List Nat}
/-- [elt for tg in iter if ..] -/
theorem e_lc (hc : X.calm = true) (hN : X.N.Nodup) (hi : IX X W tg iter di) (ok : BlkOk X.N X.env.scope scope own)
    (hg : ∀ (s : Shared) (H : Hp) (C : Addr) (cl : List (Str × Addr)) (fp : List Addr), GX (X.blk s H scope (compEnvC scope cl C X.env) fp) tg ts gd) (ht : ∀ (s : Shared) (H : Hp) (C : Addr) (cl : List (Str × Addr)) (fp : List Addr), TsX (X.blk s H scope (compEnvC scope cl C X.env) fp) W0 ifs dt)
    (he : ∀ (s : Shared) (H : Hp) (C : Addr) (cl : List (Str × Addr)) (fp : List Addr), EX (X.blk s H scope (compEnvC scope cl C X.env) fp) W0 elt de) (hts : ∀ i ∈ ts, i ∈ own.map (·.2) := by decide) (hs : ∀ x, foldedSetIterable iter X.env x = pure x := by intro _; rfl) :
    EX X W (.ListComp elt [⟨tg, iter, ifs, 0⟩] scope pos) (eLc di gd dt de (own.map (·.2))) :=
  ex_of (pe_lc (g := rdG X.K ts gd) (tt := rd X.K X.mg W0 dt) (te := rd X.K X.mg W0 de) hc hN hi ok hg ht he hs) fun σ H Q B ow σd S g => rd_lc hts S g
end
end PL
/-! PL6: statements. -/
namespace PL
open PySem PySem.Spec PyProof.Rows L2
inductive Out where
  | next (σ : PSt) | ret (r : RV) (σ : PSt) | brk (σ : PSt) | cont (σ : PSt)
abbrev DS := PSt → Res Out
/-- from slots to slots: what an owned list becomes -/
def FrS (ow : Nat → Addr) (σd : PSt) (ow' : Nat → Addr) (σd' : PSt) (H H' : Hp) : Prop :=
  Fr0 ow σd H H' ∧ ∀ (i : Nat) (b : Bool) (xs : List D), σd'[i]? = some (SV.own b xs) → (∃ j ys, σd[j]? = some (SV.own b ys) ∧ ow j = ow' i ∧ (b = true → j = i)) ∨ (b = false ∧ H (ow' i) = none)
section
variable {K : PySem.W.Frag} {mg : Str → Option Value} {W : WX} {B : Addr → Prop} {ow ow' ow1 ow2 : Nat → Addr} {σd σd' σd1 σd2 : PSt} {σ σ1 σ' : L2.St} {H H' H1 H2 : Hp}
theorem FrS.of (f : Fr0 ow σd H H') (s : SubO σd σd') : FrS ow σd ow σd' H H' := ⟨f, fun i b xs e => let ⟨ys, e1⟩ := s i b xs e; .inl ⟨i, ys, e1, rfl, fun _ => rfl⟩⟩
theorem FrS.refl : FrS ow σd ow σd H H := .of (Fr0.refl _ _ _) (SubO.refl _)
theorem FrS.ownA (F : FrS ow σd ow1 σd1 H H1) {a : Addr} {o : HO} (h : H a = some o) (n : ¬ OwnA ow σd a) : ¬ OwnA ow1 σd1 a := fun ⟨i, b, xs, e, q⟩ => by
  rcases F.2 i b xs e with ⟨j, ys, e1, e2, _⟩ | ⟨_, e1⟩
  · exact n ⟨j, b, ys, e1, by rw [e2, q]⟩
  · rw [q, h] at e1
    cases e1
theorem FrS.fr0 (F : FrS ow σd ow1 σd1 H H1) (f : Fr0 ow1 σd1 H1 H2) : Fr0 ow σd H H2 := fun a o h => by
  obtain ⟨⟨o1, h1⟩, h2⟩ := F.1 a o h
  exact ⟨(f a o1 h1).1, fun n => (f a o (h2 n)).2 (F.ownA h n)⟩
theorem FrS.trans (F : FrS ow σd ow1 σd1 H H1) (G : FrS ow1 σd1 ow2 σd2 H1 H2) : FrS ow σd ow2 σd2 H H2 := by
  refine ⟨F.fr0 G.1, fun i b xs e => ?_⟩
  rcases G.2 i b xs e with ⟨j, ys, e1, e2, e3⟩ | ⟨e1, e2⟩
  · rcases F.2 j b ys e1 with ⟨k, zs, d1, d2, d3⟩ | ⟨d1, d2⟩
    · exact .inl ⟨k, zs, d1, d2.trans e2, fun hb => (d3 hb).trans (e3 hb)⟩
    · exact .inr ⟨d1, by rw [← e2]; exact d2⟩
  · exact .inr ⟨e1, F.1.free e2⟩
def GoS (K : PySem.W.Frag) (mg : Str → Option Value) (W : WX) (B : Addr → Prop) (ow : Nat → Addr) (σd : PSt) (H : Hp) (o : Res Out) (De : Ends) : Prop :=
  match o with
  | .ok (.next σd') => ∀ ow' σ' H', FrS ow σd ow' σd' H H' → StRel K B ow' σd' σ' H' → De.nx σ' H'
  | .ok (.brk σd') => ∀ ow' σ' H', FrS ow σd ow' σd' H H' → StRel K B ow' σd' σ' H' → De.bk σ' H'
  | .ok (.cont σd') => ∀ ow' σ' H', FrS ow σd ow' σd' H H' → StRel K B ow' σd' σ' H' → De.ct σ' H'
  | .ok (.ret r σd') => ∀ ow' σ' v H', FrS ow σd ow' σd' H H' → finRV K B ow' σ' H r σd' v H' → De.rt v H'
  | .exc c x => ∀ cls dd σ' H', XPost K mg B ow σd H c x cls dd H' → W cls dd σ' H'
  | .bad => False
def rdS (K : PySem.W.Frag) (mg : Str → Option Value) (W : WX) (d : DS) : TS := fun De σ H => ∃ B ow σd, StRel K B ow σd σ H ∧ GoS K mg W B ow σd H (d σd) De
theorem finRV.up {r : RV} {v : V} (f : ∀ p, H1 p = none → H p = none) (h : finRV K B ow σ H1 r σd' v H') : finRV K B ow σ H r σd' v H' := Kd.up (α := RV) f h
theorem GoS.shift {o : Res Out} {De : Ends} (F : FrS ow σd ow1 σd1 H H1) (g : GoS K mg W B ow σd H o De) : GoS K mg W B ow1 σd1 H1 o De := by
  cases o with
  | ok t =>
    cases t with
    | next s => exact fun ow' σ' H' G S => g ow' σ' H' (F.trans G) S
    | brk s => exact fun ow' σ' H' G S => g ow' σ' H' (F.trans G) S
    | cont s => exact fun ow' σ' H' G S => g ow' σ' H' (F.trans G) S
    | ret r s => exact fun ow' σ' v H' G S => g ow' σ' v H' (F.trans G) (finRV.up (fun _ h => F.1.free h) S)
  | exc c x => exact fun cls dd σ' H' P => g cls dd σ' H' ⟨F.fr0 P.1, P.2⟩
  | bad => exact g
variable {α ρ : Type} [Kd α ρ]
/-- behind an expression -/
theorem GoS.bindE {o : Res (α × PSt)} {k : α × PSt → Res Out} {De : Ends} (g : GoS K mg W B ow σd H (o.bind k) De) :
    Go K mg W B ow σd σ H o fun v H1 => ∃ p, o = .ok p ∧ Post K B ow σd σ H p.1 p.2 v H1 ∧ GoS K mg W B ow σd H (k p) De := by
  cases o with
  | ok p => exact fun v H1 P => ⟨p, rfl, P, g⟩
  | exc c x => exact g
  | bad => exact g
theorem GoS.rdb {d : PSt → Res (α × PSt)} {k : α × PSt → Res Out} {De : Ends} {Q' : ρ → Hp → Prop} (S : StRel K B ow σd σ H) (g : GoS K mg W B ow σd H ((d σd).bind k) De)
    (h : ∀ p v H1, Post K B ow σd σ H p.1 p.2 v H1 → GoS K mg W B ow σd H (k p) De → Q' v H1) : rd K mg W d σ H Q' :=
  ⟨B, ow, σd, S, g.bindE.imp fun v H1 ⟨p, _, P, g1⟩ => h p v H1 P g1⟩
theorem Post.frS {a : α} {v : ρ} (P : Post K B ow σd σ H a σd' v H') : FrS ow σd ow σd' H H' := .of P.fr P.sub
end
def SX (X : Cx) (W : WX) (st : Stmt) (d : DS) : Prop := PS X st (rdS X.K X.mg W d)
def SsX (X : Cx) (W : WX) (st : List Stmt) (d : DS) : Prop := PSs X st (rdS X.K X.mg W d)
theorem PSs.imp {X : Cx} {e : List Stmt} {t t' : TS} (h : PSs X e t) (q : ∀ D σ H, t' D σ H → t D σ H) : PSs X e t' := ⟨fun pins s σ H D I w => h.run pins s σ H D I (q D σ H w)⟩
def dNil : DS := fun σd => .ok (.next σd)
def dSeq (d1 d2 : DS) : DS := fun σd => (d1 σd).bind fun o => match o with
  | .next σ1 => d2 σ1
  | o => .ok o
def dSet (i : Nat) (de : DE) : DS := fun σd => (de σd).bind fun p => match p.2[i]? with
  | some (.own true _) => .bad
  | none => .bad
  | _ => .ok (.next (p.2.set i (.val p.1.d)))
/-- .. a new list, owned from now on -/
def dSetO (i : Nat) (de : DE) : DS := fun σd => (de σd).bind fun p => match p.1, p.2[i]? with
  | _, some (.own true _) => .bad
  | _, none => .bad
  | .own xs, _ => .ok (.next (p.2.set i (.own false xs)))
  | _, _ => .bad
def dAsg (de : DE) (gd : DG) : DS := fun σd => (de σd).bind fun p => match gd p.1.d p.2 with
  | .ok s => .ok (.next s)
  | _ => .bad
def dIf (dt : DT) (d1 d2 : DS) : DS := fun σd => (dt σd).bind fun p => if p.1 = true then d1 p.2 else d2 p.2
def dRet (de : DE) : DS := fun σd => (de σd).bind fun p => .ok (.ret p.1 p.2)
def dRetN : DS := fun σd => .ok (.ret (.val .non) σd)
def dExpr (de : DE) : DS := fun σd => (de σd).bind fun p => .ok (.next p.2)
def dWh (dt : DT) (db : DS) : Nat → DS
  | 0 => fun _ => .bad
  | n + 1 => fun σd => (dt σd).bind fun p => if p.1 = true then (db p.2).bind fun o => match o with
      | .next s => dWh dt db n s
      | .cont s => dWh dt db n s
      | .brk s => .ok (.next s)
      | .ret r s => .ok (.ret r s)
    else .ok (.next p.2)
def forGo (gd : DG) (db : DS) : List D → DS
  | [] => fun σd => .ok (.next σd)
  | d :: ds => fun σd => match gd d σd with
    | .ok s => (db s).bind fun o => match o with
      | .next s => forGo gd db ds s
      | .cont s => forGo gd db ds s
      | .brk s => .ok (.next s)
      | .ret r s => .ok (.ret r s)
    | _ => .bad
def dFor (di : DI) (gd : DG) (db : DS) : DS := fun σd => (di σd).bind fun p => forGo gd db p.1.l p.2
/-- x.append(e) -/
def dApp (i : Nat) (de : DE) : DS := fun σd => match σd[i]? with
  | some (.own _ _) => (de σd).bind fun p => match p.2[i]? with
    | some (.own b xs) => if xs.length < most then .ok (.next (p.2.set i (.own b (xs ++ [p.1.d])))) else .bad
    | _ => .bad
  | _ => .bad
section
variable {X : Cx} {W : WX} {a b c e tg iter : Expr} {es : List Expr} {st : Stmt} {rest sa sb : List Stmt} {da db de : DE} {dt : DT} {di : DI} {gd : DG} {d1 d2 dd : DS} {pos xp : Pos} {i n : Nat} {x : Str} {ts : List Nat}
theorem ss_nil : SsX X W [] dNil := PSs.imp pss_nil fun De σ H ⟨B, ow, σd, S, g⟩ => g ow σ H FrS.refl S
theorem seq_go {De : Ends} {σ : L2.St} {H : Hp} (h : rdS X.K X.mg W (dSeq d1 d2) De σ H) : rdS X.K X.mg W d1 { De with nx := rdS X.K X.mg W d2 De } σ H := by
  obtain ⟨B, ow, σd, S, g⟩ := h
  refine ⟨B, ow, σd, S, ?_⟩
  unfold dSeq at g
  cases e1 : d1 σd with
  | ok t =>
    rw [e1] at g
    cases t with
    | next s => exact fun ow' σ' H' F S' => ⟨B, ow', s, S', GoS.shift F g⟩
    | brk s => exact g
    | cont s => exact g
    | ret r s => exact g
  | exc c x => rw [e1] at g; exact g
  | bad => rw [e1] at g; exact g
theorem ss_cons (h1 : SX X W st d1) (h2 : SsX X W rest d2) : SsX X W (st :: rest) (dSeq d1 d2) := PSs.imp (pss_cons h1 h2) fun De σ H h => seq_go h
theorem ss_one (h1 : SX X W st d1) : SsX X W [st] d1 := pss_one h1
theorem s_pass : SX X W (.Pass pos) dNil := PS.imp ps_pass fun De σ H ⟨B, ow, σd, S, g⟩ => g ow σ H FrS.refl S
theorem s_break : SX X W (.Break pos) (fun σd => .ok (.brk σd)) := PS.imp ps_break fun De σ H ⟨B, ow, σd, S, g⟩ => g ow σ H FrS.refl S
theorem s_continue : SX X W (.Continue pos) (fun σd => .ok (.cont σd)) := PS.imp ps_continue fun De σ H ⟨B, ow, σd, S, g⟩ => g ow σ H FrS.refl S
theorem lt_of_get {σd : PSt} {s : SV} (h : σd[i]? = some s) : i < σd.length := by
  by_cases hi : i < σd.length
  · exact hi
  · rw [List.getElem?_eq_none (by omega)] at h; cases h
theorem s_set_of {t : TE} (hp : PS X st (tAsg t (gName i))) (he : ∀ σ H Q, rd X.K X.mg W de σ H Q → t σ H Q) : SX X W st (dSet i de) := by
  refine PS.imp hp fun De σ H ⟨B, ow, σd, S, g⟩ => ?_
  refine he _ _ _ (GoS.rdb S g fun p v H1 P g1 => ?_)
  show De.nx (σ.set i (some v)) H1
  have fin : ∀ s, p.2[i]? = some s → GoS X.K X.mg W B ow σd H (.ok (.next (p.2.set i (.val p.1.d)))) De → De.nx (σ.set i (some v)) H1 := fun s e g1 =>
    g1 ow _ H1 (P.frS.trans (.of (Fr0.refl _ _ _) sub_set)) (P.st.setv P.rep (lt_of_get e))
  split at g1
  · exact g1.elim
  · exact g1.elim
  · cases q : p.2[i]? with
    | none => rename_i h1 h2; exact absurd q h2
    | some s => exact fin s q g1
/-- name = e -/
theorem s_set {pos' : Pos} (hN : X.N.Nodup) (hi : X.N[i]? = some x) (hx : Loc X.env.scope x) (he : EX X W e de) (hs : swapsWith e (some (.Name x pos')) pos.line X.env = pure false := by rfl) (hf : X.fn x = true ∨ X.env.scope.names.lookup x = some .local := by first | exact .inl rfl | exact .inr rfl | assumption) :
    SX X W (.Assign [.Name x pos'] e pos) (dSet i de) := s_set_of (ps_set hN hi hx he hs hf) fun _ _ _ h => h
theorem StRel.setO {K : PySem.W.Frag} {B : Addr → Prop} {ow : Nat → Addr} {σd : PSt} {σ : L2.St} {H : Hp} {q : Addr} {xs : List D} {vs : List V} (S : StRel K (Bp B q) ow σd σ H) (hb : ¬ B q) (h : H q = some (.lst vs)) (r : RepL K H (NN (Bp B q) ow σd) xs vs) (hi : i < σd.length) :
    StRel K B (fun j => if j = i then q else ow j) (σd.set i (.own false xs)) (σ.set i (some (.ref q))) H := by
  have gn : ∀ a, NN B (fun j => if j = i then q else ow j) (σd.set i (.own false xs)) a → NN (Bp B q) ow σd a := fun a z => by
    rcases z with z | ⟨j, b, ys, e, w⟩
    · exact .inl (.inl z)
    · rcases set_get e with ⟨z, _⟩ | ⟨n, z⟩
      · subst z
        dsimp only at w
        rw [if_pos rfl] at w
        exact .inl (.inr w.symm)
      · dsimp only at w
        rw [if_neg (Ne.symm n)] at w
        exact .inr ⟨j, b, ys, z, w⟩
  have ne : ∀ {j : Nat}, i ≠ j → (σ.set i (some (V.ref q)))[j]? = σ[j]? := fun n => List.getElem?_set_ne n
  refine ⟨by rw [List.length_set, List.length_set]; exact S.len, fun j d' e => ?_, fun j c ys e => ?_, fun j k c c' ys zs e e' w => ?_, fun j c ys e => ?_, fun a z => S.bt a (.inl z)⟩
  · rcases set_get e with ⟨_, z⟩ | ⟨n, z⟩
    · cases z
    · obtain ⟨u, e1, r'⟩ := S.val j d' z
      exact ⟨u, by rw [ne n]; exact e1, r'.mono (fun _ _ h _ => h) gn⟩
  · rcases set_get e with ⟨z, w⟩ | ⟨n, z⟩
    · cases w
      subst z
      refine ⟨vs, ?_, ?_, RepL.mono (fun _ _ h _ => h) gn _ _ r⟩
      · rw [if_pos rfl]
        exact List.getElem?_set_self (by rw [← S.len]; exact hi)
      · rw [if_pos rfl]
        exact h
    · obtain ⟨us, e1, e2, r'⟩ := S.own j c ys z
      refine ⟨us, ?_, ?_, RepL.mono (fun _ _ h _ => h) gn _ _ r'⟩
      · rw [if_neg (Ne.symm n), ne n]; exact e1
      · rw [if_neg (Ne.symm n)]; exact e2
  · rcases set_get e with ⟨z, _⟩ | ⟨n, z⟩
    · rcases set_get e' with ⟨z', _⟩ | ⟨n', z'⟩
      · rw [← z, ← z']
      · rw [if_pos z.symm, if_neg (Ne.symm n')] at w
        exact absurd (.inr w.symm) (S.nb k c' zs z')
    · rcases set_get e' with ⟨z', _⟩ | ⟨n', z'⟩
      · rw [if_neg (Ne.symm n), if_pos z'.symm] at w
        exact absurd (.inr w) (S.nb j c ys z)
      · rw [if_neg (Ne.symm n), if_neg (Ne.symm n')] at w
        exact S.inj j k c c' ys zs z z' w
  · rcases set_get e with ⟨z, _⟩ | ⟨n, z⟩
    · rw [if_pos z.symm]; exact hb
    · rw [if_neg (Ne.symm n)]
      exact fun w => S.nb j c ys z (.inl w)
theorem s_setO_of {t : TE} (hp : PS X st (tAsg t (gName i))) (he : ∀ σ H Q, rd X.K X.mg W de σ H Q → t σ H Q) : SX X W st (dSetO i de) := by
  refine PS.imp hp fun De σ H ⟨B, ow, σd, S, g⟩ => ?_
  refine he _ _ _ (GoS.rdb S g fun p v H1 P g1 => ?_)
  show De.nx (σ.set i (some v)) H1
  obtain ⟨r, σ2⟩ := p
  obtain ⟨f, s, P3⟩ := P
  dsimp only at g1 f s P3
  cases r with
  | val d =>
    split at g1 <;> first
      | exact g1.elim
      | (rename_i h _ _; cases h)
  | own xs =>
    obtain ⟨q, vs, rfl, h0, hb, h1, S1, rl⟩ := (show finRV X.K B ow σ H (.own xs) σ2 v H1 from P3)
    have fin : ∀ s', σ2[i]? = some s' → GoS X.K X.mg W B ow σd H (.ok (.next (σ2.set i (.own false xs)))) De → De.nx (σ.set i (some (V.ref q))) H1 := fun s' e g1 => by
      refine g1 _ _ H1 ⟨f, fun j b ys e' => ?_⟩ (S1.setO hb h1 rl (lt_of_get e))
      rcases set_get e' with ⟨z, w⟩ | ⟨n, z⟩
      · cases w
        exact .inr ⟨rfl, by rw [if_pos z.symm]; exact h0⟩
      · obtain ⟨zs, e2⟩ := s j b ys z
        exact .inl ⟨j, zs, e2, by rw [if_neg (Ne.symm n)], fun _ => rfl⟩
    split at g1
    · exact g1.elim
    · exact g1.elim
    · rename_i xs' he' h2 h3
      cases he'
      cases q' : σ2[i]? with
      | none => exact (h3 q').elim
      | some s' => exact fin s' q' g1
    · exact g1.elim
theorem s_setO {pos' : Pos} (hN : X.N.Nodup) (hi : X.N[i]? = some x) (hx : Loc X.env.scope x) (he : EX X W e de) (hs : swapsWith e (some (.Name x pos')) pos.line X.env = pure false := by rfl) (hf : X.fn x = true ∨ X.env.scope.names.lookup x = some .local := by first | exact .inl rfl | exact .inr rfl | assumption) :
    SX X W (.Assign [.Name x pos'] e pos) (dSetO i de) := s_setO_of (ps_set hN hi hx he hs hf) fun _ _ _ h => h
theorem s_asg (he : EX X W e de) (hg : GX X tg ts gd) (hs : swapsWithSole [tg] e pos.line X.env = pure false := by rfl) (hw : swappedStores [tg] e X.env = pure none := by rfl)
    (h1 : (assignEach [tg] X.env).map (·.2) = [assign tg X.env] := by rfl) : SX X W (.Assign [tg] e pos) (dAsg de gd) := by
  refine PS.imp (ps_asg he hg hs hw h1) fun De σ H ⟨B, ow, σd, S, g⟩ => ?_
  refine GoS.rdb S g fun p v H1 P g1 => ?_
  refine ⟨B, ow, p.2, p.1.d, P.st, P.rep, ?_⟩
  cases e1 : gd p.1.d p.2 with
  | ok s =>
    rw [e1] at g1
    exact fun σ' H' PG => g1 ow σ' H' (P.frS.trans (.of PG.1 PG.2.1)) PG.2.2.1
  | exc c x => rw [e1] at g1; exact g1.elim
  | bad => rw [e1] at g1; exact g1
theorem s_if (hc : TX X W c dt) (ha : SsX X W sa d1) (hb : SsX X W sb d2) : SX X W (.If c sa sb pos) (dIf dt d1 d2) := by
  refine PS.imp (ps_if hc ha hb) fun De σ H ⟨B, ow, σd, S, g⟩ => ?_
  refine GoS.rdb S g fun p k H1 P g1 => ?_
  have e := P.bool
  subst e
  cases hk : p.1 with
  | true =>
    rw [hk, if_pos rfl] at g1
    rw [if_pos rfl]
    exact ⟨B, ow, p.2, P.st, GoS.shift P.frS g1⟩
  | false =>
    rw [hk, if_neg Bool.false_ne_true] at g1
    rw [if_neg Bool.false_ne_true]
    exact ⟨B, ow, p.2, P.st, GoS.shift P.frS g1⟩
theorem s_ret (he : EX X W e de) : SX X W (.Return (some e) pos) (dRet de) := by
  refine PS.imp (ps_ret he) fun De σ H ⟨B, ow, σd, S, g⟩ => ?_
  exact GoS.rdb S g fun p v H1 P g1 => g1 ow σ v H1 P.frS P.2.2
theorem s_retN : SX X W (.Return none pos) dRetN := PS.imp ps_retN fun De σ H ⟨B, ow, σd, S, g⟩ => g ow σ .non H FrS.refl ⟨S, rfl⟩
theorem s_expr (he : EX X W e de) (hs : swapsWith e none pos.line X.env = pure false := by rfl) : SX X W (.Expr e pos) (dExpr de) := by
  refine PS.imp (ps_expr he hs) fun De σ H ⟨B, ow, σd, S, g⟩ => ?_
  exact GoS.rdb S g fun p v H1 P g1 => g1 ow σ H1 P.frS P.st
theorem s_while (n : Nat) (hp : PassesOwn (model X.prog X.w) X.A X.env X.xe) (hc : TX X W c dt) (hb : SsX X W sb dd) : SX X W (.While c sb [] pos) (dWh dt dd n) := by
  refine PS.imp (ps_while hp hc hb) fun De σ H ⟨B, ow, σd, S, g⟩ => ?_
  refine ⟨fun m σ' H' => ∃ ow' σd', StRel X.K B ow' σd' σ' H' ∧ GoS X.K X.mg W B ow' σd' H' (dWh dt dd m σd') De, ⟨n, ow, σd, S, g⟩, ?_⟩
  rintro m σ1 H1 ⟨ow1, σd1, S1, g1⟩
  cases m with
  | zero => exact g1.elim
  | succ m =>
    unfold dWh at g1
    refine GoS.rdb S1 g1 fun p k H2 P g2 => ?_
    have e := P.bool
    subst e
    cases hk : p.1 with
    | false =>
      rw [hk, if_neg Bool.false_ne_true] at g2
      rw [if_neg Bool.false_ne_true]
      exact g2 ow1 σ1 H2 P.frS P.st
    | true =>
      rw [hk, if_pos rfl] at g2
      rw [if_pos rfl]
      refine ⟨fun σ' H' => ∃ ow' σd', StRel X.K B ow' σd' σ' H' ∧ GoS X.K X.mg W B ow' σd' H' (dWh dt dd m σd') De, fun σ' H' h => ⟨m, Nat.lt_succ_self m, h⟩, B, ow1, p.2, P.st, ?_⟩
      cases e1 : dd p.2 with
      | ok t =>
        rw [e1] at g2
        cases t with
        | next s => exact fun ow' σ' H' F S' => ⟨ow', s, S', GoS.shift (P.frS.trans F) g2⟩
        | cont s => exact fun ow' σ' H' F S' => ⟨ow', s, S', GoS.shift (P.frS.trans F) g2⟩
        | brk s => exact fun ow' σ' H' F S' => g2 ow' σ' H' (P.frS.trans F) S'
        | ret r s => exact fun ow' σ' v H' F S' => g2 ow' σ' v H' (P.frS.trans F) (finRV.up (fun _ h => P.fr.free h) S')
      | exc c x => rw [e1] at g2; exact GoS.shift P.frS g2
      | bad => rw [e1] at g2; exact g2
theorem s_for (hp : PassesOwn (model X.prog X.w) X.A X.env X.xe) (hc : X.calm = true) (hi : IX X W tg iter di) (hg : GX X tg ts gd) (hb : SsX X W sb dd)
    (hs : ∀ x, foldedSetIterable iter X.env x = pure x := by intro _; rfl) : SX X W (.For tg iter sb [] pos) (dFor di gd dd) := by
  refine PS.imp (ps_for hp hc hi hg hb hs) fun De σ H ⟨B, ow, σd, S, g⟩ => ?_
  refine GoS.rdb S g fun p J H1 P g1 => ?_
  have g1 := GoS.shift P.frS g1
  obtain ⟨_, _, S1, IO⟩ := P
  have IO : ItOk X.K (NN B ow p.2) H1 J p.1.l := IO
  refine ⟨fun i m σ' H' => m = p.1.l.length - i ∧ i ≤ p.1.l.length ∧ ∃ ow' σd', StRel X.K B ow' σd' σ' H' ∧ GoS X.K X.mg W B ow' σd' H' (forGo gd dd (p.1.l.drop i) σd') De ∧ FrS ow p.2 ow' σd' H1 H', ⟨p.1.l.length, rfl, Nat.zero_le _, ow, p.2, S1, g1, FrS.refl⟩, ?_⟩
  rintro i m σ2 H2 ⟨rfl, hi, ow2, σd2, S2, g2, F2⟩
  have ext : ∀ a o, H1 a = some o → ¬ NN B ow p.2 a → H2 a = some o := fun a o e n => F2.1.at e fun z => n (.inr z)
  by_cases hlt : i < p.1.l.length
  · refine .inr ⟨IO.go i H2 ext hlt, fun σ' H' => i + 1 ≤ p.1.l.length ∧ ∃ ow' σd', StRel X.K B ow' σd' σ' H' ∧ GoS X.K X.mg W B ow' σd' H' (forGo gd dd (p.1.l.drop (i + 1)) σd') De ∧ FrS ow p.2 ow' σd' H1 H', fun σ' H' h => ⟨p.1.l.length - (i + 1), by omega, rfl, h⟩, fun x H' y => ?_⟩
    have trk : ∀ a, NN B ow2 σd2 a → (NN B ow p.2 a ∨ H1 a = none) ∧ ∃ o, H2 a = some o := fun a z => by
      rcases z with z | z
      · exact ⟨.inl (.inl z), S2.bt a z⟩
      · obtain ⟨vs', q⟩ := S2.there z
        refine ⟨?_, _, q⟩
        obtain ⟨k, b, xs, e, rfl⟩ := z
        rcases F2.2 k b xs e with ⟨j, ys, e1, e2, _⟩ | ⟨_, e1⟩
        · exact .inl (.inr ⟨j, b, ys, e1, e2⟩)
        · exact .inr e1
    obtain ⟨gr, d, hd, rx⟩ := IO.yld i H2 H' x (NN B ow2 σd2) ext trk hlt y
    have ed : p.1.l.drop i = d :: p.1.l.drop (i + 1) := by
      rw [List.drop_eq_getElem_cons hlt]
      rw [List.getElem?_eq_getElem hlt] at hd
      rw [Option.some.inj hd]
    rw [ed] at g2
    unfold forGo at g2
    refine ⟨B, ow2, σd2, d, S2.grow gr, rx, ?_⟩
    cases e1 : gd d σd2 with
    | ok s =>
      rw [e1] at g2
      intro σ3 H3 PG
      have F3 : FrS ow2 σd2 ow2 s H2 H3 := (FrS.of (gr.fr _ _) (SubO.refl _)).trans (.of PG.1 PG.2.1)
      refine ⟨B, ow2, s, PG.2.2.1, ?_⟩
      have g3 : GoS X.K X.mg W B ow2 s H3 ((dd s).bind fun o => match o with | .next s => forGo gd dd (p.1.l.drop (i + 1)) s | .cont s => forGo gd dd (p.1.l.drop (i + 1)) s | .brk s => .ok (.next s) | .ret r s => .ok (.ret r s)) De := GoS.shift F3 g2
      cases e2 : dd s with
      | ok t =>
        rw [e2] at g3
        cases t with
        | next s' => exact fun ow' σ' H' F S' => ⟨hlt, ow', s', S', GoS.shift F g3, (F2.trans F3).trans F⟩
        | cont s' => exact fun ow' σ' H' F S' => ⟨hlt, ow', s', S', GoS.shift F g3, (F2.trans F3).trans F⟩
        | brk s' => exact g3
        | ret r s' => exact g3
      | exc c x => rw [e2] at g3; exact g3
      | bad => rw [e2] at g3; exact g3
    | exc c x => rw [e1] at g2; exact g2.elim
    | bad => rw [e1] at g2; exact g2
  · have ei : i = p.1.l.length := by omega
    subst ei
    rw [List.drop_length] at g2
    exact .inl ⟨IO.stop _ H2 ext (Nat.le_refl _), g2 ow2 σ2 H2 FrS.refl S2⟩
end
end PL
/-! PL7: append, several targets at once. -/
namespace PL
open PySem PySem.Spec PyProof.Rows L2
section
variable {X : Cx} {W : WX} {a b c e tg iter elt : Expr} {es : List Expr} {de : DE} {dt : DT} {di : DI} {gd : DG} {pos xp apos cpos spos : Pos} {i : Nat} {x : Str} {ts : List Nat} {ifs : List Expr} {scope : Scope} {own : List (Str × Nat)}
/-- x = [..], x a local -/
theorem s_setLc {py : Pos} (hc : X.calm = true) (hN : X.N.Nodup) (hy : X.N[i]? = some x) (hyl : X.env.scope.names.lookup x = some .local)
    (hsw : swapsWith (.ListComp elt [⟨tg, iter, ifs, 0⟩] scope pos) (some (.Name x py)) spos.line X.env = pure true) (hi : IX X W tg iter di) (ok : BlkOk X.N X.env.scope scope own)
    (hg : ∀ (s : Shared) (H : Hp) (C : Addr) (cl : List (Str × Addr)) (fp : List Addr), GX (X.blk s H scope (compEnvC scope cl C X.env) fp) tg ts gd) (ht : ∀ (s : Shared) (H : Hp) (C : Addr) (cl : List (Str × Addr)) (fp : List Addr), TsX (X.blk s H scope (compEnvC scope cl C X.env) fp) W0 ifs dt)
    (he : ∀ (s : Shared) (H : Hp) (C : Addr) (cl : List (Str × Addr)) (fp : List Addr), EX (X.blk s H scope (compEnvC scope cl C X.env) fp) W0 elt de) (hts : ∀ i ∈ ts, i ∈ own.map (·.2) := by decide) (hs : ∀ x, foldedSetIterable iter X.env x = pure x := by intro _; rfl) :
    SX X W (.Assign [.Name x py] (.ListComp elt [⟨tg, iter, ifs, 0⟩] scope pos) spos) (dSet i (eLc di gd dt de (own.map (·.2)))) :=
  s_set_of (ps_setLc (g := rdG X.K ts gd) (tt := rd X.K X.mg W0 dt) (te := rd X.K X.mg W0 de) hc hN hy hyl hsw hi ok hg ht he hs) fun σ H Q ⟨B, ow, σd, S, g⟩ => rd_lc hts S g
theorem s_setLcO {py : Pos} (hc : X.calm = true) (hN : X.N.Nodup) (hy : X.N[i]? = some x) (hyl : X.env.scope.names.lookup x = some .local)
    (hsw : swapsWith (.ListComp elt [⟨tg, iter, ifs, 0⟩] scope pos) (some (.Name x py)) spos.line X.env = pure true) (hi : IX X W tg iter di) (ok : BlkOk X.N X.env.scope scope own)
    (hg : ∀ (s : Shared) (H : Hp) (C : Addr) (cl : List (Str × Addr)) (fp : List Addr), GX (X.blk s H scope (compEnvC scope cl C X.env) fp) tg ts gd) (ht : ∀ (s : Shared) (H : Hp) (C : Addr) (cl : List (Str × Addr)) (fp : List Addr), TsX (X.blk s H scope (compEnvC scope cl C X.env) fp) W0 ifs dt)
    (he : ∀ (s : Shared) (H : Hp) (C : Addr) (cl : List (Str × Addr)) (fp : List Addr), EX (X.blk s H scope (compEnvC scope cl C X.env) fp) W0 elt de) (hts : ∀ i ∈ ts, i ∈ own.map (·.2) := by decide) (hs : ∀ x, foldedSetIterable iter X.env x = pure x := by intro _; rfl) :
    SX X W (.Assign [.Name x py] (.ListComp elt [⟨tg, iter, ifs, 0⟩] scope pos) spos) (dSetO i (eLc di gd dt de (own.map (·.2)))) :=
  s_setO_of (ps_setLc (g := rdG X.K ts gd) (tt := rd X.K X.mg W0 dt) (te := rd X.K X.mg W0 de) hc hN hy hyl hsw hi ok hg ht he hs) fun σ H Q ⟨B, ow, σd, S, g⟩ => rd_lc hts S g
/-- x.append(e), x an owned list -/
theorem s_app (hv : PE X (.Name x xp) (tVar i)) (he : EX X W e de) (hx : (starEach [e] X.env = (false, eval e X.env) :: starEach [] X.env) := by rfl)
    (hbase : attributeBase (.Name x xp) "append" X.env (eval (.Name x xp) X.env) = eval (.Name x xp) X.env := by rfl)
    (hfew : ((backTo cpos (starEach [e] X.env)).all (fun x => !x.1) && (backToKw cpos (keywordEach [] X.env)).all (fun x => x.1.isSome)
      && decide (([e] : List Expr).length + ([] : List Keyword).length + (if ([] : List Keyword).isEmpty then 0 else 1) < 30)) = true := by rfl)
    (hline : (apos.endLine == cpos.line) = true := by rfl) (hplain : (backTo cpos (starEach [] X.env)).any (·.1) = false := by rfl)
    (hs : swapsWith (.Call (.Attribute (.Name x xp) "append" apos) [e] [] cpos) none pos.line X.env = pure false := by rfl) : SX X W (.Expr (.Call (.Attribute (.Name x xp) "append" apos) [e] [] cpos) pos) (dApp i de) := by
  refine PS.imp (ps_expr (pe_bm PySem.F.plainAttrs_list PySem.F.slot_list_append PySem.F.type_list_append mt_append hv (pa_cons he pa_nil hx) hbase hfew hline hx hplain) hs) fun De σ H ⟨B, ow, σd, S, g⟩ => ?_
  unfold dApp at g
  split at g
  · rename_i t xs0 e0
    obtain ⟨vs0, es, hl0, _⟩ := S.own i t xs0 e0
    refine ⟨.ref (ow i), es, .inl ⟨rfl, vs0, SqL.of hl0⟩, ?_⟩
    refine GoS.rdb S g fun p v H1 P g1 => ?_
    show rAppend (.ref (ow i)) [v] H1 (fun _ H1 => De.nx σ H1)
    split at g1
    · rename_i t2 xs e2
      obtain ⟨vs, _, hl, rl⟩ := P.st.own i t2 xs e2
      split at g1
      · rename_i c
        refine ⟨ow i, vs, v, rfl, rfl, hl, by rw [rl.length]; exact most_lt c, ?_⟩
        have r1 : RepL X.K H1 (NN B ow p.2) [p.1.d] [v] := ⟨v, [], rfl, P.rep, rfl⟩
        obtain ⟨S', f', s'⟩ := P.st.chg e2 (rl.append r1)
        exact g1 ow σ _ (P.frS.trans (.of f' s')) S'
      · exact g1.elim
    · exact g1.elim
  · exact g.elim
end
/-! ### several values, new lists among them -/
def BP (B : Addr → Prop) (P : List Addr) (a : Addr) : Prop := B a ∨ a ∈ P
def RelRs (K : PySem.W.Frag) (H : Hp) (N : Addr → Prop) : List RV → List V → List Addr → Prop
  | [], vs, P => vs = [] ∧ P = []
  | .val d :: rs, vs, P => ∃ v r, vs = v :: r ∧ Rep K H N d v ∧ RelRs K H N rs r P
  | .own xs :: rs, vs, P => ∃ p us r P', vs = .ref p :: r ∧ P = p :: P' ∧ H p = some (.lst us) ∧ RepL K H N xs us ∧ RelRs K H N rs r P'
theorem RelRs.mono {K : PySem.W.Frag} {H H' : Hp} {N N' : Addr → Prop} (f : ∀ a o, H a = some o → ¬ N a → H' a = some o) (g : ∀ a, N' a → N a) : ∀ (rs : List RV) (vs : List V) (P : List Addr), (∀ p ∈ P, H' p = H p) → RelRs K H N rs vs P → RelRs K H' N' rs vs P
  | [], _, _, _, h => h
  | .val d :: rs, vs, P, hp, h => by
    obtain ⟨v, r, e, h1, h2⟩ := h
    exact ⟨v, r, e, h1.mono f g, RelRs.mono f g rs r P hp h2⟩
  | .own xs :: rs, vs, P, hp, h => by
    obtain ⟨p, us, r, P', e, rfl, h1, h2, h3⟩ := h
    exact ⟨p, us, r, P', e, rfl, by rw [hp p List.mem_cons_self]; exact h1, RepL.mono f g _ _ h2, RelRs.mono f g rs r P' (fun q hq => hp q (List.mem_cons_of_mem _ hq)) h3⟩
theorem RelRs.length {K : PySem.W.Frag} {H : Hp} {N : Addr → Prop} : ∀ {rs : List RV} {vs : List V} {P : List Addr}, RelRs K H N rs vs P → vs.length = rs.length
  | [], _, _, h => by rw [h.1]; rfl
  | .val d :: rs, vs, P, h => by
    obtain ⟨v, r, rfl, h1, h2⟩ := h
    rw [List.length_cons, List.length_cons, RelRs.length h2]
  | .own xs :: rs, vs, P, h => by
    obtain ⟨p, us, r, P', rfl, rfl, h1, h2, h3⟩ := h
    rw [List.length_cons, List.length_cons, RelRs.length h3]
instance : Kd (List RV) (List V) where
  fin := fun K B ow σ H rs σd' vs H' => ∃ P : List Addr, P.Nodup ∧ (∀ p ∈ P, H p = none ∧ ¬ B p) ∧ StRel K (BP B P) ow σd' σ H' ∧ RelRs K H' (NN (BP B P) ow σd') rs vs P
  up := fun f ⟨P, h1, h2, h3⟩ => ⟨P, h1, fun p hp => ⟨f p (h2 p hp).1, (h2 p hp).2⟩, h3⟩
  st := fun ⟨P, h1, h2, h3, h4⟩ => h3.weak fun a z => .inl z
abbrev DRs := PSt → Res (List RV × PSt)
def AoX (X : Cx) (W : WX) (es : List Expr) (d : DRs) : Prop := PA X es (rd X.K X.mg W d)
def roNil : DRs := fun σd => .ok ([], σd)
def roCons (de : DE) (da : DRs) : DRs := fun σd => (de σd).bind fun p => (da p.2).bind fun q => .ok (p.1 :: q.1, q.2)
section
variable {X : Cx} {W : WX} {a b c e tg iter elt : Expr} {es : List Expr} {de : DE} {da : DRs} {dt : DT} {di : DI} {gd : DG} {pos xp apos cpos spos : Pos} {i : Nat} {x : Str} {ts : List Nat}
variable {K : PySem.W.Frag} {mg : Str → Option Value} {B B' : Addr → Prop} {ow : Nat → Addr} {σd σd' σd1 : PSt} {σ : L2.St} {H H' H1 H0 : Hp} {v : V} {d : D} {N : Addr → Prop}
theorem nn_iff (g : ∀ a, B' a ↔ B a) (a : Addr) : NN B' ow σd a ↔ NN B ow σd a := ⟨fun z => z.elim (fun z => .inl ((g a).1 z)) .inr, fun z => z.elim (fun z => .inl ((g a).2 z)) .inr⟩
theorem ro_nil : AoX X W [] roNil := PA.imp pa_nil fun σ H Q ⟨B, ow, σd, S, g⟩ => g [] H ⟨Fr0.refl _ _ _, SubO.refl _, [], .nil, (fun _ h => nomatch h), S.weak (B' := BP B []) (fun a z => by rcases z with z | z; exact z; cases z), rfl, rfl⟩
theorem bp_cons {p : Addr} {P : List Addr} (a : Addr) : BP B (p :: P) a ↔ BP (Bp B p) P a := by
  constructor
  · rintro (z | z)
    · exact .inl (.inl z)
    · rcases List.mem_cons.mp z with z | z
      · exact .inl (.inr z)
      · exact .inr z
  · rintro ((z | z) | z)
    · exact .inl z
    · exact .inr (by rw [z]; exact List.mem_cons_self)
    · exact .inr (List.mem_cons_of_mem _ z)
theorem ro_cons (ha : EX X W e de) (hr : AoX X W es da) (hs : starEach (e :: es) X.env = (false, eval e X.env) :: starEach es X.env := by rfl) : AoX X W (e :: es) (roCons de da) := by
  refine PA.imp (pa_cons ha hr hs) fun σ H Q ⟨B, ow, σd, S, g⟩ => ?_
  refine ⟨B, ow, σd, S, ?_⟩
  unfold roCons at g
  cases e1 : de σd with
  | ok p =>
    obtain ⟨r, σ1⟩ := p
    rw [e1, Res.bind_ok] at g
    dsimp only at g
    intro v H1 P1
    obtain ⟨f1, s1, P1⟩ := P1
    dsimp only at f1 s1 P1
    cases r with
    | val d =>
      obtain ⟨S1, r1⟩ := (show finRV X.K B ow σ H (.val d) σ1 v H1 from P1)
      refine ⟨B, ow, σ1, S1, ?_⟩
      cases e2 : da σ1 with
      | ok q =>
        obtain ⟨rs, σ2⟩ := q
        rw [e2, Res.bind_ok] at g
        intro vs H2 P2
        obtain ⟨f2, s2, P, h1, h2, h3, h4⟩ := P2
        refine g (v :: vs) H2 ⟨f1.trans s1 f2, s1.trans s2, P, h1, fun p hp => ⟨f1.free (h2 p hp).1, (h2 p hp).2⟩, h3, v, vs, rfl, ?_, h4⟩
        refine r1.lift (fun a o e n => f2.at e fun z => n (.inr z)) fun a z => ?_
        rcases z with (z | z) | z
        · exact .inl (.inl z)
        · exact .inr (h2 a z).1
        · exact .inl (.inr (s2.ownA z))
      | exc c x =>
        rw [e2] at g
        exact fun cls dd σ' H' PX => g cls dd σ' H' (PX.trans f1 s1)
      | bad => rw [e2] at g; exact g
    | own xs =>
      obtain ⟨q0, us, rfl, k0, kb, k1, S1, r1⟩ := (show finRV X.K B ow σ H (.own xs) σ1 v H1 from P1)
      refine ⟨Bp B q0, ow, σ1, S1, ?_⟩
      cases e2 : da σ1 with
      | ok q =>
        obtain ⟨rs, σ2⟩ := q
        rw [e2, Res.bind_ok] at g
        intro vs H2 P2
        obtain ⟨f2, s2, P, h1, h2, h3, h4⟩ := P2
        have gn : ∀ a, NN (BP B (q0 :: P)) ow σ2 a → NN (BP (Bp B q0) P) ow σ2 a := fun a z => z.elim (fun z => .inl ((bp_cons a).1 z)) .inr
        have nq : ¬ OwnA ow σ1 q0 := fun ⟨i, b, ys, e, w⟩ => S1.nb i b ys e (.inr w)
        refine g (V.ref q0 :: vs) H2 ⟨f1.trans s1 f2, s1.trans s2, q0 :: P, ?_, fun p hp => ?_, h3.weak fun a z => (bp_cons a).1 z, q0, us, vs, P, rfl, rfl, f2.at k1 nq, ?_, RelRs.mono (fun _ _ h _ => h) gn _ _ _ (fun _ _ => rfl) h4⟩
        · refine List.nodup_cons.mpr ⟨fun z => ?_, h1⟩
          have := (h2 q0 z).1
          rw [k1] at this
          cases this
        · rcases List.mem_cons.mp hp with z | z
          · rw [z]; exact ⟨k0, kb⟩
          · exact ⟨f1.free (h2 p z).1, fun w => (h2 p z).2 (.inl w)⟩
        · refine RepL.lift (fun a o e n => f2.at e fun z => n (.inr z)) (fun a z => ?_) _ _ r1
          rcases gn a z with (z | z) | z
          · exact .inl (.inl z)
          · exact .inr (h2 a z).1
          · exact .inl (.inr (s2.ownA z))
      | exc c x =>
        rw [e2] at g
        exact fun cls dd σ' H' PX => g cls dd σ' H' ⟨f1.trans s1 PX.1, PX.2.1, by
          obtain ⟨_, _, px⟩ := PX
          cases x with
          | none => trivial
          | some fd =>
            obtain ⟨a, v, e1, e2, N, hN, r⟩ := px
            exact ⟨a, v, e1, e2, N, fun a z => hN a (.inl z), r⟩⟩
      | bad => rw [e2] at g; exact g
  | exc c x => rw [e1] at g; exact g
  | bad => rw [e1] at g; exact g
/-- values into slots; the flags tell which are to be owned -/
def putRs : List (Nat × Bool) → List RV → PSt → Res PSt
  | [], [], σ => .ok σ
  | (i, o) :: ts, r :: rs, σ => (match σ[i]? with
    | some (.own true _) => .bad
    | none => .bad
    | _ => (match o, r with
      | true, .own xs => putRs ts rs (σ.set i (.own false xs))
      | true, .val _ => .bad
      | false, r => putRs ts rs (σ.set i (.val r.d))))
  | _, _, _ => .bad
def setAll : List (Nat × Bool) → List V → L2.St → L2.St
  | (i, _) :: ts, v :: vs, σ => setAll ts vs (σ.set i (some v))
  | _, _, σ => σ
theorem put_ok : ∀ (ts : List (Nat × Bool)) (rs : List RV) (vs : List V) (P : List Addr) (ow : Nat → Addr) (σd σd' : PSt) (σ : L2.St), putRs ts rs σd = .ok σd' → P.Nodup → (∀ p ∈ P, ¬ B p) → StRel K (BP B P) ow σd σ H → RelRs K H (NN (BP B P) ow σd) rs vs P →
    ∃ ow', StRel K B ow' σd' (setAll ts vs σ) H ∧ ∀ (i : Nat) (b : Bool) (xs : List D), σd'[i]? = some (SV.own b xs) → (∃ ys, σd[i]? = some (SV.own b ys) ∧ ow' i = ow i) ∨ (b = false ∧ ow' i ∈ P)
  | [], [], vs, P, ow, σd, σd', σ, h, _, _, S, r => by
    cases h
    obtain ⟨rfl, rfl⟩ := r
    exact ⟨ow, S.weak fun a z => .inl z, fun i b xs e => .inl ⟨xs, e, rfl⟩⟩
  | [], r :: rs, _, _, _, _, _, _, h, _, _, _, _ => by cases h
  | t :: ts, [], _, _, _, _, _, _, h, _, _, _, _ => by cases h
  | (i, o) :: ts, r :: rs, vs, P, ow, σd, σd', σ, h, nd, nB, S, rr => by
    unfold putRs at h
    cases e : σd[i]? with
    | none => rw [e] at h; cases h
    | some s =>
      rw [e] at h
      have hi := lt_of_get e
      have h' : (match o, r with
        | true, .own xs => putRs ts rs (σd.set i (.own false xs))
        | true, .val _ => .bad
        | false, r => putRs ts rs (σd.set i (.val r.d))) = .ok σd' := by
        cases s with
        | un => exact h
        | val d => exact h
        | own b xs =>
          cases b with
          | true => cases h
          | false => exact h
      clear h
      cases r with
      | val d =>
        obtain ⟨v, us, rfl, r1, r2⟩ := rr
        cases o with
        | true => cases h'
        | false =>
          have gn : ∀ a, NN (BP B P) ow (σd.set i (.val d)) a → NN (BP B P) ow σd a := fun a z => SubO.nn sub_set z
          obtain ⟨ow', S', k⟩ := put_ok ts rs us P ow (σd.set i (.val d)) σd' (σ.set i (some v)) h' nd nB (S.setv r1 hi) (RelRs.mono (fun _ _ h _ => h) gn _ _ _ (fun _ _ => rfl) r2)
          refine ⟨ow', S', fun j b xs e' => ?_⟩
          rcases k j b xs e' with ⟨ys, e2, e3⟩ | z
          · obtain ⟨zs, e4⟩ := sub_set j b ys e2
            exact .inl ⟨zs, e4, e3⟩
          · exact .inr z
      | own xs =>
        obtain ⟨p, us, l, P', rfl, rfl, hp, r1, r2⟩ := rr
        have nd' := List.nodup_cons.mp nd
        have g1 : ∀ a, BP B (p :: P') a ↔ Bp (BP B P') p a := fun a => by
          constructor
          · rintro (z | z)
            · exact .inl (.inl z)
            · rcases List.mem_cons.mp z with z | z
              · exact .inr z
              · exact .inl (.inr z)
          · rintro ((z | z) | z)
            · exact .inl z
            · exact .inr (List.mem_cons_of_mem _ z)
            · exact .inr (by rw [z]; exact List.mem_cons_self)
        have S1 : StRel K (Bp (BP B P') p) ow σd σ H := S.weak fun a z => (g1 a).2 z
        have npB : ¬ BP B P' p := fun z => z.elim (nB p List.mem_cons_self) nd'.1
        cases o with
        | true =>
          have S2 := S1.setO (i := i) npB hp (RepL.mono (fun _ _ h _ => h) (fun a z => (nn_iff (fun a => (g1 a).symm) a).1 z) _ _ r1) hi
          have gn : ∀ a, NN (BP B P') (fun j => if j = i then p else ow j) (σd.set i (.own false xs)) a → NN (BP B (p :: P')) ow σd a := fun a z => by
            rcases z with z | ⟨j, b, ys, e', w⟩
            · exact .inl (z.elim .inl fun z => .inr (List.mem_cons_of_mem _ z))
            · rcases set_get e' with ⟨z, _⟩ | ⟨n, z⟩
              · dsimp only at w
                rw [if_pos z.symm] at w
                exact .inl (.inr (by rw [← w]; exact List.mem_cons_self))
              · dsimp only at w
                rw [if_neg (Ne.symm n)] at w
                exact .inr ⟨j, b, ys, z, w⟩
          obtain ⟨ow', S', k⟩ := put_ok ts rs l P' _ (σd.set i (.own false xs)) σd' (σ.set i (some (.ref p))) h' nd'.2 (fun q hq => nB q (List.mem_cons_of_mem _ hq)) S2 (RelRs.mono (fun _ _ h _ => h) gn _ _ _ (fun _ _ => rfl) r2)
          refine ⟨ow', S', fun j b zs e' => ?_⟩
          rcases k j b zs e' with ⟨ys, e2, e3⟩ | ⟨z1, z2⟩
          · rcases set_get e2 with ⟨z, w⟩ | ⟨n, z⟩
            · cases w
              rw [if_pos z.symm] at e3
              exact .inr ⟨rfl, by rw [e3]; exact List.mem_cons_self⟩
            · rw [if_neg (Ne.symm n)] at e3
              exact .inl ⟨ys, z, e3⟩
          · exact .inr ⟨z1, List.mem_cons_of_mem _ z2⟩
        | false =>
          have S3 : StRel K (BP B P') ow σd σ H := S1.weak fun a z => .inl z
          have gm : ∀ a, NN (BP B P') ow σd a → NN (BP B (p :: P')) ow σd a := fun a z => z.elim (fun z => .inl (z.elim .inl fun z => .inr (List.mem_cons_of_mem _ z))) .inr
          have rp : Rep K H (NN (BP B P') ow σd) (.lst xs) (.ref p) := by
            refine ⟨p, us, rfl, fun z => ?_, hp, RepL.mono (fun _ _ h _ => h) gm _ _ r1⟩
            rcases z with z | ⟨j, b, ys, e', w⟩
            · exact npB z
            · exact S1.nb j b ys e' (.inr w)
          have gn : ∀ a, NN (BP B P') ow (σd.set i (.val (.lst xs))) a → NN (BP B (p :: P')) ow σd a := fun a z => gm a (SubO.nn sub_set z)
          obtain ⟨ow', S', k⟩ := put_ok ts rs l P' ow (σd.set i (.val (.lst xs))) σd' (σ.set i (some (.ref p))) h' nd'.2 (fun q hq => nB q (List.mem_cons_of_mem _ hq)) (S3.setv rp hi) (RelRs.mono (fun _ _ h _ => h) gn _ _ _ (fun _ _ => rfl) r2)
          refine ⟨ow', S', fun j b zs e' => ?_⟩
          rcases k j b zs e' with ⟨ys, e2, e3⟩ | ⟨z1, z2⟩
          · obtain ⟨zs', e4⟩ := sub_set j b ys e2
            exact .inl ⟨zs', e4, e3⟩
          · exact .inr ⟨z1, List.mem_cons_of_mem _ z2⟩
def dPut (ts : List (Nat × Bool)) (da : DRs) : DS := fun σd => (da σd).bind fun p => match putRs ts p.1 p.2 with
  | .ok s => .ok (.next s)
  | _ => .bad
/-- what a statement is to meet that puts the values vs into slots -/
def tPut (ts : List (Nat × Bool)) (ta : TA) : TS := fun De σ H => ta σ H fun vs H1 => vs.length = ts.length ∧ ∀ H2, Grow H1 H2 → De.nx (setAll ts vs σ) H2
theorem putRs_len : ∀ {ts : List (Nat × Bool)} {rs : List RV} {σd σd' : PSt}, putRs ts rs σd = .ok σd' → rs.length = ts.length
  | [], [], _, _, _ => rfl
  | [], r :: rs, _, _, h => by cases h
  | t :: ts, [], _, _, h => by cases h
  | (i, o) :: ts, r :: rs, σd, σd', h => by
    unfold putRs at h
    rw [List.length_cons, List.length_cons]
    split at h
    · cases h
    · cases h
    · split at h
      · rw [putRs_len h]
      · cases h
      · rw [putRs_len h]
theorem s_put_of {st : Stmt} {ts : List (Nat × Bool)} {ta : TA} (hp : PS X st (tPut ts ta)) (he : ∀ σ H Q, rd X.K X.mg W da σ H Q → ta σ H Q) : SX X W st (dPut ts da) := by
  refine PS.imp hp fun De σ H ⟨B, ow, σd, S, g⟩ => ?_
  refine he _ _ _ (GoS.rdb S g fun p vs H1 P g1 => ?_)
  obtain ⟨f, s, Q, nd, h2, h3, h4⟩ := P
  cases e : putRs ts p.1 p.2 with
  | ok s' =>
    rw [e] at g1
    refine ⟨by rw [h4.length]; exact putRs_len e, fun H2 gr => ?_⟩
    have trk : ∀ q ∈ Q, H2 q = H1 q := fun q hq => by
      obtain ⟨o, ho⟩ := h3.bt q (.inr hq)
      rw [gr _ _ ho, ho]
    obtain ⟨ow', S', k⟩ := put_ok ts p.1 vs Q ow p.2 s' σ e nd (fun q hq => (h2 q hq).2) (h3.grow gr) (RelRs.mono (fun a o e _ => gr a o e) (fun _ z => z) _ _ _ trk h4)
    refine g1 ow' _ H2 ⟨fun a o e => ?_, fun i b xs e' => ?_⟩ S'
    · obtain ⟨⟨o1, h1⟩, h2⟩ := f a o e
      exact ⟨⟨o1, gr _ _ h1⟩, fun n => gr _ _ (h2 n)⟩
    · rcases k i b xs e' with ⟨ys, e2, e3⟩ | ⟨z1, z2⟩
      · obtain ⟨zs, e4⟩ := s i b ys e2
        exact .inl ⟨i, zs, e4, e3.symm, fun _ => rfl⟩
      · exact .inr ⟨z1, (h2 _ z2).1⟩
  | exc c x => rw [e] at g1; exact g1.elim
  | bad => rw [e] at g1; exact g1.elim
/-- two plain local names at once -/
theorem s_par2 {i j : Nat} {oi oj : Bool} {x y : Str} {px py pt : Pos} {kt k2 pt2} (hc : X.calm = true) (hN : X.N.Nodup) (hi : X.N[i]? = some x) (hj : X.N[j]? = some y) (hij : i ≠ j)
    (hx : X.env.scope.names.lookup x = some .local) (hy : X.env.scope.names.lookup y = some .local) (ha : AoX X W [a, b] da)
    (hw : swappedStores [.Tuple [.Name x px, .Name y py] kt pt] (.Tuple [a, b] k2 pt2) X.env = pure (some [x, y]))
    (hs : swapsWithSole [.Tuple [.Name x px, .Name y py] kt pt] (.Tuple [a, b] k2 pt2) pos.line X.env = pure false := by rfl) :
    SX X W (.Assign [.Tuple [.Name x px, .Name y py] kt pt] (.Tuple [a, b] k2 pt2) pos) (dPut [(i, oi), (j, oj)] da) := by
  refine s_put_of (ta := rd X.K X.mg W da) (PS.imp (ps_par hc hN hi hj hij hx hy ha hw hs) fun De σ H h => ?_) fun _ _ _ h => h
  unfold tPar tPut at *
  obtain ⟨B, ow, σd, S, g⟩ := h
  refine ⟨B, ow, σd, S, g.imp fun vs H1 ⟨hl, q⟩ => ?_⟩
  match vs, hl with
  | [v, w], _ => exact ⟨v, w, rfl, q H1 fun _ _ h => h⟩
/-- names at once, by a tuple -/
def gNames : List (Nat × Bool) → TGs
  | [] => gNil
  | (i, _) :: ts => gCons (gName i) (gNames ts)
theorem gNames_ok : ∀ (ts : List (Nat × Bool)) (vs : List V) (σ : L2.St) (H : Hp) (Q : L2.St → Hp → Prop), vs.length = ts.length → Q (setAll ts vs σ) H → gNames ts vs σ H Q
  | [], [], _, _, _, _, q => ⟨rfl, q⟩
  | (i, o) :: ts, v :: vs, σ, H, Q, hl, q => ⟨v, vs, rfl, gNames_ok ts vs _ H Q (by simpa using hl) q⟩
theorem s_parT {ts : List (Nat × Bool)} {elts vals : List Expr} {kt k2} {pt pt2 : Pos} (hc : X.calm = true) (ha : AoX X W vals da) (hg : PGs X elts (gNames ts)) (hm : ts.length ≤ 1000 := by decide)
    (hn : (assignEach elts X.env).length = ts.length := by rfl) (hst : (assignEach elts X.env).findIdx? (·.1) = none := by rfl)
    (hs : swapsWithSole [.Tuple elts kt pt] (.Tuple vals k2 pt2) pos.line X.env = pure false := by rfl) (hw : swappedStores [.Tuple elts kt pt] (.Tuple vals k2 pt2) X.env = pure none := by rfl)
    (h1 : (assignEach [.Tuple elts kt pt] X.env).map (·.2) = [assign (.Tuple elts kt pt) X.env] := by rfl) :
    SX X W (.Assign [.Tuple elts kt pt] (.Tuple vals k2 pt2) pos) (dPut ts da) := by
  refine s_put_of (ta := rd X.K X.mg W da) (PS.imp (ps_asg (pe_tup ha) (pg_tup hc hg hn hst) hs hw h1) fun De σ H h => ?_) fun _ _ _ h => h
  unfold tPut at h
  obtain ⟨B, ow, σd, S, g⟩ := h
  refine ⟨B, ow, σd, S, g.imp fun vs H1 ⟨hl, q⟩ => ?_⟩
  refine ⟨Nat.le_trans (by rw [hl]; exact hm) (by decide), fun p hp => ?_⟩
  exact ⟨p, vs, rfl, SqT.of upd_same, hl, gNames_ok ts vs σ _ _ hl (q _ (Grow.new hp))⟩
end
end PL
/-! PL8: defs and their calls. -/
namespace PL
open PySem PySem.Spec PyProof.Rows L2

/-- a def keeps its promise, where no repr is going on -/
structure FnG (P : Program) (w : World) (K : PySem.W.Frag) (mg : Str → Option Value) (base : Heap) (k : Nat) (f : Addr) (fd : FuncData) (ps : List Str) (sp : Sp) : Prop where
  len : ∀ vs H Q E, sp vs H Q E → vs.length = ps.length
  run : ∀ (A : Around) (outer : List Env) (s : Shared) (H : Hp) (args : Args) (us : List Value) (vs : List V) (Q : VK) (E : XK), Room k A → A.guards = some [] → Env0 P w K mg base A outer s H → BindsTo s fd args (ps.zip us) → Vals vs us → sp vs H Q E →
    codeAny (model P w) A (.call (.ref f) args) (CR (L2.CX P w) outer P w H s Q E) s
section
variable {P : Program} {w : World} {K : PySem.W.Frag} {mg : Str → Option Value} {base : Heap}
theorem FnG.mono {j k : Nat} {f : Addr} {fd : FuncData} {ps : List Str} {sp : Sp} (F : FnG P w K mg base j f fd ps sp) (h : j ≤ k) : FnG P w K mg base k f fd ps sp :=
  ⟨F.len, fun A outer s H args us vs Q E hr => F.run A outer s H args us vs Q E (hr.mono h)⟩
theorem FnG.imp {k : Nat} {f : Addr} {fd : FuncData} {ps : List Str} {sp sp' : Sp} (F : FnG P w K mg base k f fd ps sp) (h : ∀ vs H Q E, sp' vs H Q E → sp vs H Q E) : FnG P w K mg base k f fd ps sp' :=
  ⟨fun vs H Q E q => F.len vs H Q E (h _ _ _ _ q), fun A outer s H args us vs Q E hr hG he hb hv hs => F.run A outer s H args us vs Q E hr hG he hb hv (h _ _ _ _ hs)⟩
theorem fnG_of {k : Nat} {f : Addr} {name qual : Str} {params : Arguments} {body : List Stmt} {scope : Scope} {dV kV doc pm cdv ct oc : Value} {an od : Option Addr}
    {osl : Array (Option Value)} {N ps : List Str} {sp : Sp} (lk : K.lookup f = some ⟨oc, od, .func (PySem.W.fnOf name qual params body scope dV kV doc pm an cdv ct), osl⟩) (hcd : PySem.W.codeIn K cdv qual = true) (S : FnScope N ps scope)
    (len : ∀ vs H Q E, sp vs H Q E → vs.length = ps.length)
    (hbody : ∀ (A : Around) (outer : List Env) (s : Shared) (H : Hp) (vs : List V) (Q : VK) (E : XK), Room k (A.deeper (envOfC qual scope s.heap.objs.size f cdv)) → A.guards = some [] → sp vs H Q E →
      ∃ t, PSs (cxOf (L2.CX P w) P w K mg base N qual scope f cdv A outer s H E) body t ∧ t { nx := fun _ H' => Q .non H', rt := Q } (L2.start N vs) H) :
    FnG P w K mg base (k + 1) f (PySem.W.fnOf name qual params body scope dV kV doc pm an cdv ct) ps sp := by
  refine ⟨len, fun A outer s H args us vs Q E hr hG e0 hb r hsp => ?_⟩
  have hl := len _ _ _ _ hsp
  have kin : K.In s.heap := e0.mod.kin.keeps fun b o e => (e0.bs b o e).1
  have kd : ∀ y ∈ ps.zip us, scope.names.lookup y.1 = some .local ∨ (scope.names.lookup y.1 = some .cell ∧ ((cellsFrom (s.heap.objs.size + 1) scope.names []).lookup y.1).isSome = true) := fun y hy =>
    (S.par y.1 (List.of_mem_zip (a := y.1) (b := y.2) hy).1).imp id fun q => ⟨q, PySem.W.cellsFrom_some _ _ _ (.inl q)⟩
  refine codeAny_call_function hr.depth (kin _ _ lk) rfl S.co S.gen rfl (PySem.W.codeRec_of kin hcd) (hb _ _ _ _ (wpAny_newFunctionEnv_cells S.kind kd fun env he s1 x => ?_))
  subst he
  refine ⟨(e0.mod.nolimit.keeps fun b o e => (e0.bs b o e).1).keeps x.toInCall.keep, codeAny_func ?_⟩
  obtain ⟨t, ht, hq⟩ := hbody A outer s H vs Q E (hr.deeper _) hG hsp
  refine wpAny_mono (ht.run [] s1 (L2.start N vs) H _ (inv_start S hr.hd e0 hl r x) hq) (fun fl s' hs => ?_) fun e s' hs => hs
  cases fl with
  | ret u => exact let ⟨v, σ', H', J, rv, q⟩ := hs; ⟨v, H', J.os, J.bare, J.base, J.hok, rv, q⟩
  | next => exact let ⟨σ', H', J, q⟩ := hs; ⟨.non, H', J.os, J.bare, J.base, J.hok, rfl, q⟩
  | brk => exact hs.elim fun _ h => h.elim fun _ h => h.2.elim
  | cont => exact hs.elim fun _ h => h.elim fun _ h => h.2.elim
theorem funG_ok {x qual : Str} {st : Stmt} {f : Addr} {fd : FuncData} {N ps : List Str} {k : Nat} {sp : Sp} (F : Fun K x qual st f fd) (S : FnScope N ps (defScope st)) (len : ∀ vs H Q E, sp vs H Q E → vs.length = ps.length)
    (hbody : ∀ (cdv : Value) (A : Around) (outer : List Env) (s : Shared) (H : Hp) (vs : List V) (Q : VK) (E : XK), Room k (A.deeper (envOfC qual (defScope st) s.heap.objs.size f cdv)) → A.guards = some [] → sp vs H Q E →
      ∃ t, PSs (cxOf (L2.CX P w) P w K mg base N qual (defScope st) f cdv A outer s H E) (defBody st) t ∧ t { nx := fun _ H' => Q .non H', rt := Q } (L2.start N vs) H) : FnG P w K mg base (k + 1) f fd ps sp := by
  obtain ⟨oc, od, kV, doc, pm, an, cdv, ct, osl, rfl, lk, hcd⟩ := F.ex
  exact fnG_of lk hcd S len fun A outer s H vs Q E hr hG h => hbody cdv A outer s H vs Q E hr hG h
end
/-! ### plain promises -/
def Tk (B : Addr → Prop) (H : Hp) : Prop := ∀ a, B a → ∃ o, H a = some o
def RPost (K : PySem.W.Frag) (B : Addr → Prop) (H : Hp) (r : RV) (v : V) (H' : Hp) : Prop := match r with
  | .val d => Rep K H' B d v
  | .own xs => ∃ p vs, v = .ref p ∧ H p = none ∧ H' p = some (.lst vs) ∧ RepL K H' (Bp B p) xs vs
def XPay (K : PySem.W.Frag) (mg : Str → Option Value) (B : Addr → Prop) (c : Str) (x : Option (Str × D)) (cls : Value) (dd : Option Addr) (H' : Hp) : Prop := mg c = some cls ∧ match x with
    | none => True
    | some (f, d) => ∃ a v, dd = some a ∧ H' a = some (.xd [(f, v)]) ∧ ∃ N, (∀ a, B a → N a) ∧ Rep K H' N d v
abbrev Fd := List D → Res RV
abbrev Fu := List D → List D → Res (RV × List D)
/-- n values in, one out; what stood stands -/
def GoF (K : PySem.W.Frag) (mg : Str → Option Value) (B : Addr → Prop) (H : Hp) (o : Res RV) (Q : VK) (E : XK) : Prop := match o with
  | .ok r => ∀ v H', Grow H H' → RPost K B H r v H' → Q v H'
  | .exc c x => ∀ cls dd H', Grow H H' → XPay K mg B c x cls dd H' → E cls dd H'
  | .bad => False
def spP (K : PySem.W.Frag) (mg : Str → Option Value) (n : Nat) (F : Fd) : Sp := fun vs H Q E => vs.length = n ∧ ∃ B ds, Tk B H ∧ RepL K H B ds vs ∧ GoF K mg B H (F ds) Q E
/-- the first argument a list that is changed -/
def spU (K : PySem.W.Frag) (mg : Str → Option Value) (n : Nat) (F : Fu) : Sp := fun vs H Q E => vs.length = n ∧ ∃ B p us xs ds ws, vs = .ref p :: ws ∧ ¬ B p ∧ Tk B H ∧ H p = some (.lst us) ∧ RepL K H (Bp B p) xs us ∧ RepL K H (Bp B p) ds ws ∧ match F xs ds with
  | .ok (r, ys) => ∀ v H', (∀ a o, H a = some o → a ≠ p → H' a = some o) → (∃ us', H' p = some (.lst us') ∧ match r with
      | .val d => RepL K H' (Bp B p) ys us' ∧ Rep K H' (Bp B p) d v
      | .own zs => ∃ q vs', v = .ref q ∧ H q = none ∧ H' q = some (.lst vs') ∧ RepL K H' (Bp (Bp B p) q) ys us' ∧ RepL K H' (Bp (Bp B p) q) zs vs') → Q v H'
  | _ => False
/-- the slots at the entry -/
def slots (n : Nat) (ss : List SV) : PSt := ss ++ List.replicate (n - ss.length) .un
def runF (n : Nat) (d : DS) : Fd := fun ds => match d (slots n (ds.map .val)) with
  | .ok (.ret r _) => .ok r
  | .ok (.next _) => .ok (.val .non)
  | .ok _ => .bad
  | .exc c x => .exc c x
  | .bad => .bad
def runU (n : Nat) (d : DS) : Fu := fun xs ds => match d (slots n (.own true xs :: ds.map .val)) with
  | .ok (.ret r σ) => (match σ[0]? with
    | some (SV.own true ys) => .ok (r, ys)
    | _ => .bad)
  | .ok (.next σ) => (match σ[0]? with
    | some (SV.own true ys) => .ok (.val .non, ys)
    | _ => .bad)
  | _ => .bad
abbrev WE (E : XK) : WX := fun cls d _ H => E cls d H
section
variable {K : PySem.W.Frag} {mg : Str → Option Value} {B : Addr → Prop} {ow : Nat → Addr} {H : Hp}
theorem slots_get {n : Nat} {ss : List SV} {i : Nat} {s : SV} (h : (slots n ss)[i]? = some s) : ss[i]? = some s ∨ s = .un := by
  unfold slots at h
  by_cases hi : i < ss.length
  · rw [List.getElem?_append_left hi] at h
    exact .inl h
  · rw [List.getElem?_append_right (by omega), List.getElem?_replicate] at h
    split at h
    · exact .inr (Option.some.inj h).symm
    · cases h
theorem slots_len {n : Nat} {ss : List SV} (h : ss.length ≤ n) : (slots n ss).length = n := by
  unfold slots
  rw [List.length_append, List.length_replicate]
  omega
theorem start_get {N : List Str} {vs : List V} {i : Nat} {v : V} (h : vs[i]? = some v) : (L2.start N vs)[i]? = some (some v) := by
  unfold L2.start
  have hi : i < vs.length := by
    by_cases hi : i < vs.length
    · exact hi
    · rw [List.getElem?_eq_none (by omega)] at h; cases h
  rw [List.getElem?_append_left (by simpa using hi), List.getElem?_map, h]
  rfl
theorem start_len {N : List Str} {vs : List V} (h : vs.length ≤ N.length) : (L2.start N vs).length = N.length := by
  unfold L2.start
  rw [List.length_append, List.length_map, List.length_replicate]
  omega
theorem map_val_get {ds : List D} {i : Nat} {s : SV} (h : (ds.map SV.val)[i]? = some s) : ∃ d, ds[i]? = some d ∧ s = .val d := by
  rw [List.getElem?_map] at h
  obtain ⟨d, e, q⟩ := map_some h
  exact ⟨d, e, q.symm⟩
theorem no_own {n : Nat} {ds : List D} {i : Nat} {b : Bool} {xs : List D} : (slots n (ds.map SV.val))[i]? ≠ some (SV.own b xs) := fun e => by
  rcases slots_get e with e | e
  · obtain ⟨d, _, q⟩ := map_val_get e
    cases q
  · cases e
theorem st_start {N : List Str} {ds : List D} {vs : List V} (ht : Tk B H) (r : RepL K H B ds vs) (hl : vs.length ≤ N.length) : StRel K B ow (slots N.length (ds.map .val)) (L2.start N vs) H := by
  have gn : ∀ a, NN B ow (slots N.length (ds.map .val)) a → B a := fun a z => z.elim id fun ⟨i, b, xs, e, _⟩ => absurd e no_own
  refine ⟨?_, fun i d e => ?_, fun i b xs e => absurd e no_own, fun i j b b' xs ys e => absurd e no_own, fun i b xs e => absurd e no_own, ht⟩
  · rw [start_len hl, slots_len (by rw [List.length_map, ← r.length]; exact hl)]
  · rcases slots_get e with e | e
    · obtain ⟨d', e1, q⟩ := map_val_get e
      cases q
      obtain ⟨v, e2, rv⟩ := r.get e1
      exact ⟨v, start_get e2, rv.mono (fun _ _ h _ => h) gn⟩
    · cases e
end
section
variable {P : Program} {w : World} {K : PySem.W.Frag} {mg : Str → Option Value} {base : Heap}
/-- THE RULE for a def of values -/
theorem fn_P {x qual : Str} {st : Stmt} {f : Addr} {fd : FuncData} {N ps : List Str} {k : Nat} {d : DS} (F : Fun K x qual st f fd) (S : FnScope N ps (defScope st))
    (hbody : ∀ (cdv : Value) (A : Around) (outer : List Env) (s : Shared) (H : Hp) (E : XK), Room k (A.deeper (envOfC qual (defScope st) s.heap.objs.size f cdv)) → (A.deeper (envOfC qual (defScope st) s.heap.objs.size f cdv)).guards = some [] →
      SsX (cxOf (L2.CX P w) P w K mg base N qual (defScope st) f cdv A outer s H E) (WE E) (defBody st) d) : FnG P w K mg base (k + 1) f fd ps (spP K mg ps.length (runF N.length d)) := by
  refine funG_ok F S (fun vs H Q E h => h.1) fun cdv A outer s H vs Q E hr hG h => ?_
  obtain ⟨hl, B, ds, ht, rl, g⟩ := h
  refine ⟨_, hbody cdv A outer s H E hr hG, B, fun _ => 0, slots N.length (ds.map .val), ?_⟩
  have hpl : vs.length ≤ N.length := by
    have := congrArg List.length S.pre
    rw [List.length_take] at this
    omega
  refine ⟨st_start ht rl hpl, ?_⟩
  have nn : ∀ a, ¬ OwnA (fun _ => 0) (slots N.length (ds.map .val)) a := fun a ⟨i, b, xs, e, _⟩ => absurd e no_own
  unfold runF at g
  cases e : d (slots N.length (ds.map .val)) with
  | ok t =>
    rw [e] at g
    cases t with
    | next σ1 => exact fun ow' σ' H' FS S' => g .non H' (fun a o h => FS.1.at h (nn a)) rfl
    | brk σ1 => exact (show False from g).elim
    | cont σ1 => exact (show False from g).elim
    | ret r σ1 =>
      intro ow' σ' v H' FS fin
      refine g v H' (fun a o h => FS.1.at h (nn a)) ?_
      cases r with
      | val d' => exact fin.2.mono (fun _ _ h _ => h) fun a z => .inl z
      | own xs =>
        obtain ⟨p, us, e1, e2, e3, e4, _, e5⟩ := fin
        exact ⟨p, us, e1, e2, e4, RepL.mono (fun _ _ h _ => h) (fun a z => .inl z) _ _ e5⟩
  | exc c x =>
    rw [e] at g
    exact fun cls dd σ' H' PX => g cls dd H' (fun a o h => PX.1.at h (nn a)) PX.2
  | bad => rw [e] at g; exact g
theorem slot0 {n : Nat} {xs : List D} {ds : List D} : (slots n (SV.own true xs :: ds.map .val))[0]? = some (.own true xs) := rfl
theorem slotU_own {n : Nat} {xs : List D} {ds : List D} {i : Nat} {b : Bool} {ys : List D} (h : (slots n (SV.own true xs :: ds.map .val))[i]? = some (.own b ys)) : i = 0 ∧ b = true ∧ ys = xs := by
  rcases slots_get h with e | e
  · cases i with
    | zero =>
      have e : SV.own true xs = .own b ys := Option.some.inj e
      cases e
      exact ⟨rfl, rfl, rfl⟩
    | succ i =>
      obtain ⟨d, _, q⟩ := map_val_get (show (ds.map SV.val)[i]? = _ from e)
      cases q
  · cases e
theorem own_of {z : Option SV} {r : RV} {Qf : RV → List D → Prop} (g : match (match z with | some (SV.own true ys) => Res.ok (r, ys) | _ => .bad) with | .ok (r, ys) => Qf r ys | _ => False) : ∃ ys, z = some (SV.own true ys) ∧ Qf r ys := by
  cases z with
  | none => exact g.elim
  | some s =>
    cases s with
    | un => exact g.elim
    | val d => exact g.elim
    | own b ys =>
      cases b with
      | false => exact g.elim
      | true => exact ⟨ys, rfl, g⟩
theorem fn_U {x qual : Str} {st : Stmt} {f : Addr} {fd : FuncData} {N ps : List Str} {k : Nat} {d : DS} (F : Fun K x qual st f fd) (S : FnScope N ps (defScope st))
    (hbody : ∀ (cdv : Value) (A : Around) (outer : List Env) (s : Shared) (H : Hp) (E : XK), Room k (A.deeper (envOfC qual (defScope st) s.heap.objs.size f cdv)) → (A.deeper (envOfC qual (defScope st) s.heap.objs.size f cdv)).guards = some [] →
      SsX (cxOf (L2.CX P w) P w K mg base N qual (defScope st) f cdv A outer s H E) (WE E) (defBody st) d) : FnG P w K mg base (k + 1) f fd ps (spU K mg ps.length (runU N.length d)) := by
  refine funG_ok F S (fun vs H Q E h => h.1) fun cdv A outer s H vs Q E hr hG h => ?_
  obtain ⟨hl, B, p, us, xs, ds, ws, rfl, nb, ht, hp, rx, rl, g⟩ := h
  refine ⟨_, hbody cdv A outer s H E hr hG, B, fun _ => p, slots N.length (.own true xs :: ds.map .val), ?_⟩
  have hpl : (V.ref p :: ws).length ≤ N.length := by
    have := congrArg List.length S.pre
    rw [List.length_take] at this
    omega
  have own0 : ∀ a, OwnA (fun _ => p) (slots N.length (.own true xs :: ds.map .val)) a ↔ a = p := fun a => ⟨fun ⟨i, b, ys, e, q⟩ => q.symm, fun z => ⟨0, true, xs, slot0, z.symm⟩⟩
  have nnB : ∀ a, NN B (fun _ => p) (slots N.length (.own true xs :: ds.map .val)) a → Bp B p a := fun a z => z.elim .inl fun z => .inr ((own0 a).1 z)
  have St0 : StRel K B (fun _ => p) (slots N.length (.own true xs :: ds.map .val)) (L2.start N (.ref p :: ws)) H := by
    refine ⟨?_, fun i d e => ?_, fun i b ys e => ?_, fun i j b b' y1 y2 e e' _ => ?_, fun i b ys e => nb, ht⟩
    · rw [start_len hpl, slots_len (by rw [List.length_cons, List.length_map, ← rl.length]; exact hpl)]
    · rcases slots_get e with e | e
      · cases i with
        | zero => cases e
        | succ i =>
          obtain ⟨d', e1, q⟩ := map_val_get (show (ds.map SV.val)[i]? = _ from e)
          cases q
          obtain ⟨v, e2, rv⟩ := rl.get e1
          exact ⟨v, start_get (show (V.ref p :: ws)[i + 1]? = some v from e2), rv.mono (fun _ _ h _ => h) nnB⟩
      · cases e
    · obtain ⟨rfl, rfl, rfl⟩ := slotU_own e
      exact ⟨us, start_get (show (V.ref p :: ws)[0]? = some _ from rfl), hp, RepL.mono (fun _ _ h _ => h) nnB _ _ rx⟩
    · rw [(slotU_own e).1, (slotU_own e').1]
  refine ⟨St0, ?_⟩
  have frm : ∀ {H' : Hp}, Fr0 (fun _ => p) (slots N.length (.own true xs :: ds.map .val)) H H' → ∀ a o, H a = some o → a ≠ p → H' a = some o := fun f a o h n => f.at h fun z => n ((own0 a).1 z)
  -- the end: the list that came is still at p
  have fin0 : ∀ {ow' : Nat → Addr} {σ1 : PSt} {ys : List D} {H' : Hp}, FrS (fun _ => p) (slots N.length (.own true xs :: ds.map .val)) ow' σ1 H H' → σ1[0]? = some (SV.own true ys) → ow' 0 = p := fun FS e => by
    rcases FS.2 0 true _ e with ⟨j, zs, _, e2, _⟩ | ⟨z, _⟩
    · exact e2.symm
    · cases z
  unfold runU at g
  cases e : d (slots N.length (.own true xs :: ds.map .val)) with
  | ok t =>
    rw [e] at g
    cases t with
    | next σ1 =>
      · obtain ⟨ys, e0, g⟩ := own_of g
        intro ow' σ' H' FS S'
        have e1 := fin0 FS e0
        obtain ⟨us', _, hp', rl'⟩ := S'.own 0 true ys e0
        rw [e1] at hp'
        have gb : ∀ a, Bp B p a → NN B ow' σ1 a := fun a z => z.elim .inl fun z => .inr ⟨0, true, ys, e0, by rw [e1, z]⟩
        exact g .non H' (frm FS.1) ⟨us', hp', RepL.mono (fun _ _ h _ => h) gb _ _ rl', rfl⟩
    | brk σ1 => exact g.elim
    | cont σ1 => exact g.elim
    | ret r σ1 =>
      · obtain ⟨ys, e0, g⟩ := own_of g
        intro ow' σ' v H' FS fin
        have e1 := fin0 FS e0
        cases r with
        | val d' =>
          obtain ⟨S', rv⟩ := fin
          obtain ⟨us', _, hp', rl'⟩ := S'.own 0 true ys e0
          rw [e1] at hp'
          have gb : ∀ a, Bp B p a → NN B ow' σ1 a := fun a z => z.elim .inl fun z => .inr ⟨0, true, ys, e0, by rw [e1, z]⟩
          exact g v H' (frm FS.1) ⟨us', hp', RepL.mono (fun _ _ h _ => h) gb _ _ rl', rv.mono (fun _ _ h _ => h) gb⟩
        | own zs =>
          obtain ⟨q, vs', ev, q0, q1, q2, S', rz⟩ := fin
          obtain ⟨us', _, hp', rl'⟩ := S'.own 0 true ys e0
          rw [e1] at hp'
          have gb : ∀ a, Bp (Bp B p) q a → NN (Bp B q) ow' σ1 a := fun a z => by
            rcases z with (z | z) | z
            · exact .inl (.inl z)
            · exact .inr ⟨0, true, ys, e0, by rw [e1, z]⟩
            · exact .inl (.inr z)
          exact g v H' (frm FS.1) ⟨us', hp', q, vs', ev, q0, q2, RepL.mono (fun _ _ h _ => h) gb _ _ rl', RepL.mono (fun _ _ h _ => h) gb _ _ rz⟩
  | exc c x => rw [e] at g; exact g.elim
  | bad => rw [e] at g; exact g
end
end PL
/-! PL9: calls of defs; the law's own call. -/
namespace PL
open PySem PySem.Spec PyProof.Rows L2
section
variable {X : Cx} {W : WX} {k : Nat} {f : Addr} {fd : FuncData} {ps ks : List Str} {sp : Sp} {E : XK} {x : Str} {p pos : Pos} {e : Expr} {es : List Expr} {kws : List Keyword} {t : TA}
theorem run_G {pins : List (Addr × Obj)} {σ : L2.St} {H : Hp} {s : Shared} {Q : VK} {args : List Value} {kw : List (Str × Value)} {us : List Value} {vs : List V} (F : FnG X.prog X.w X.K X.mg X.base k f fd ps sp) (hr : Room k X.A) (hG : X.A.guards = some []) (hb : BindsTo s fd ⟨args, kw⟩ (ps.zip us))
    (hx : Passes (L2.CX X.prog X.w) X E) (I : Inv X pins σ H s) (r : Vals vs us) (h : sp vs H Q E) : wpAny (model X.prog X.w) X.A (call (.ref f) args kw) (EP X pins σ Q) X.xe s := by
  refine wpAny_call (codeAny_mono (F.run X.A X.stack s H ⟨args, kw⟩ us vs Q E hr hG I.env0 hb r h) fun r s' hq => ?_)
  cases r with
  | error e => exact hx pins σ H s e s' I hq
  | ok fl =>
    cases fl with
    | ret u => exact I.after hq
    | next => exact hq.elim
    | brk => exact hq.elim
    | cont => exact hq.elim
def tCallG (sp : Sp) (E : XK) (t : TA) : TE := fun σ H Q => t σ H fun vs H1 => sp vs H1 Q E
theorem pe_callG (F : FnG X.prog X.w X.K X.mg X.base k f fd ps sp) (hr : Room k X.A) (hG : X.A.guards = some []) (hg : Gl X x) (hm : X.mg x = some (.ref f)) (hk : PySem.W.keepIn X.K (.ref f) = true) (hb : Binds X.K fd ps []) (hx : Passes (L2.CX X.prog X.w) X E)
    (ha : PA X (e :: es) t) (hdb : (x == ("__debug__" : Str)) = false := by decide) (he : starEach (e :: es) X.env = (false, eval e X.env) :: starEach es X.env := by rfl) (hpl : (backTo pos (starEach es X.env)).any (·.1) = false := by rfl) :
    PE X (.Call (.Name x p) (e :: es) [] pos) (tCallG sp E t) := by
  refine ⟨fun pins s σ H Q I h => wpAny_Call_Name_kw (ld_glob I hg hm ?_ hdb)⟩
  refine PySem.W.callWith_K (h₀ := X.base) I.ok.mod.kin hk (thn (ha.run pos pins s σ H _ I h) fun us s1 ⟨vs, H1, I1, r, q⟩ => ⟨I1.kIn, ?_⟩) he hpl
  have hl : (us ++ ([] : List Value)).length = ps.length := by rw [List.append_nil, ← r.length]; exact F.len _ _ _ _ q
  have b := hb s1 us I1.kIn hl
  rw [List.append_nil] at b
  exact run_G F hr hG b hx I1 r q
/-- names alone: the i-th parameter is the keyword at π[i] -/
def perm {α : Type} (z : α) (π : List Nat) (xs : List α) : List α := π.map fun j => xs.getD j z
theorem vals_perm {π : List Nat} {zs : List V} {ws : List Value} (r : Vals zs ws) : Vals (perm V.non π zs) (perm Value.none π ws) := by
  unfold perm
  induction π with
  | nil => exact .nil
  | cons j π ih =>
    refine .cons ?_ ih
    show RelV (zs.getD j V.non) (ws.getD j Value.none)
    rw [List.getD_eq_getElem?_getD, List.getD_eq_getElem?_getD]
    cases e : zs[j]? with
    | none => rw [r.none_of e]; rfl
    | some v =>
      obtain ⟨u, e1, rv⟩ := r.get e
      rw [e1]
      exact rv
def KwB (fd : FuncData) (ps ks : List Str) (π : List Nat) : Prop := ∀ ws : List Value, ws.length = ks.length → bindArgs fd ⟨[], ks.zip ws⟩ = pure (ps.zip (perm Value.none π ws))
theorem pe_callGK {π : List Nat} (F : FnG X.prog X.w X.K X.mg X.base k f fd ps sp) (hr : Room k X.A) (hG : X.A.guards = some []) (hg : Gl X x) (hm : X.mg x = some (.ref f)) (hk : PySem.W.keepIn X.K (.ref f) = true) (hb : KwB fd ps ks π) (hx : Passes (L2.CX X.prog X.w) X E)
    (hkw : PK X kws t) (hlen : kws.length = ks.length) (hall : (backToKw pos (keywordEach kws X.env)).all (·.1.isSome) = true := by rfl) (hks : (backToKw pos (keywordEach kws X.env)).filterMap (·.1) = ks := by rfl)
    (hdb : (x == ("__debug__" : Str)) = false := by decide) (hpl : ((backTo pos (starEach [] X.env)).any (·.1) || (backToKw pos (keywordEach kws X.env)).any (·.1.isNone)) = false := by rfl) :
    PE X (.Call (.Name x p) [] kws pos) (fun σ H Q => t σ H fun zs H1 => zs.length = ks.length ∧ sp (perm V.non π zs) H1 Q E) := by
  refine ⟨fun pins s σ H Q I h => wpAny_Call_Name_kw (ld_glob I hg hm ?_ hdb)⟩
  refine PySem.W.callWith_KW0 (h₀ := X.base) I.ok.mod.kin hk hall (thn (hkw.run pos pins s σ H _ I h) fun ws s2 ⟨zs, H2, I2, rz, hl, q2⟩ => ⟨I2.kIn, ?_⟩) hpl
  rw [hks]
  exact run_G F hr hG (.of_eq (hb ws (rz.length.symm.trans hl))) hx I2 (vals_perm rz) q2
end
/-! ### the rules -/
abbrev EW (W : WX) : XK := fun cls d H => ∀ σ, W cls d σ H
/-- the values of keywords -/
def KX (X : Cx) (W : WX) (kws : List Keyword) (d : DA) : Prop := PK X kws (rd X.K X.mg W d)
def eCall (n : Nat) (F : Fd) (da : DA) : DE := fun σd => (da σd).bind fun p => if p.1.length = n then (F p.1).bind fun r => .ok (r, p.2) else .bad
def eCallK (m : Nat) (F : Fd) (π : List Nat) (da : DA) : DE := fun σd => (da σd).bind fun p => if p.1.length = m then (F (perm D.non π p.1)).bind fun r => .ok (r, p.2) else .bad
/-- the first argument the list that slot i owns -/
def eCallU (n : Nat) (F : Fu) (i : Nat) (da : DA) : DE := fun σd => match σd[i]? with
  | some (.own _ _) => (da σd).bind fun p => (match p.2[i]? with
    | some (SV.own b xs) => if p.1.length + 1 = n then (match F xs p.1 with
      | .ok (r, ys) => .ok (r, p.2.set i (.own b ys))
      | _ => .bad) else .bad
    | _ => .bad)
  | _ => .bad
/-- .. a new list -/
def eCallN (F : Fu) (de : DE) : DE := fun σd => (de σd).bind fun p => match p.1 with
  | .own xs => (match F xs [] with
    | .ok (.val d, _) => .ok (.val d, p.2)
    | _ => .bad)
  | _ => .bad
section
variable {X : Cx} {W : WX} {k n : Nat} {f : Addr} {fd : FuncData} {ps ks : List Str} {x y : Str} {p xp pos kpos : Pos} {nm : Option Str} {e : Expr} {es : List Expr} {kws : List Keyword} {da : DA} {de : DE} {F : Fd} {G : Fu} {i : Nat}
variable {K : PySem.W.Frag} {mg : Str → Option Value} {B B' : Addr → Prop} {ow : Nat → Addr} {σd σd' σd1 : PSt} {σ : L2.St} {H H' H1 H0 : Hp} {v : V} {d : D} {N : Addr → Prop}
theorem PK.imp {X : Cx} {e : List Keyword} {t t' : TA} (h : PK X e t) (q : ∀ σ H Q, t' σ H Q → t σ H Q) : PK X e t' := ⟨fun pos pins s σ H Q I w => h.run pos pins s σ H Q I (q σ H Q w)⟩
theorem k_nil : KX X W [] aNil := PK.imp pk_nil fun σ H Q ⟨B, ow, σd, S, g⟩ => g [] H ⟨Fr0.refl _ _ _, SubO.refl _, S, rfl⟩
theorem k_cons (ha : EX X W e de) (hr : KX X W kws da) : KX X W (⟨nm, e, kpos⟩ :: kws) (aCons de da) := by
  refine PK.imp (pk_cons ha hr) fun σ H Q ⟨B, ow, σd, S, g⟩ => ?_
  refine Go.rdb S g fun p v H1 P1 g1 => ?_
  refine Go.rdb P1.st g1 fun q vs H2 P2 g2 => ?_
  exact g2 _ H2 ⟨Fr0.refl _ _ _, SubO.refl _, P2.st, v, vs, rfl, P1.rep.keep P2.fr P2.sub, P2.repL⟩
theorem StRel.trk (S : StRel K B ow σd σ H) : Tk (NN B ow σd) H := fun a z => by
  rcases z with z | z
  · exact S.bt a z
  · obtain ⟨vs, q⟩ := S.there z
    exact ⟨_, q⟩
theorem StRel.shutG {p : Addr} {u : HO} (S : StRel K B ow σd σ H) (h : H p = none) (g : Grow H H') (hp : H' p = some u) : StRel K (Bp B p) ow σd σ H' := by
  have gn : ∀ a, NN (Bp B p) ow σd a → NN B ow σd a ∨ H a = none := fun a z => by
    rcases z with (z | z) | z
    · exact .inl (.inl z)
    · rw [z]; exact .inr h
    · exact .inl (.inr z)
  refine ⟨S.len, fun i d e => ?_, fun i b xs e => ?_, S.inj, fun i b xs e z => ?_, fun a z => ?_⟩
  · obtain ⟨v, q, r⟩ := S.val i d e
    exact ⟨v, q, r.lift (fun a o h _ => g a o h) gn⟩
  · obtain ⟨vs, q1, q2, r⟩ := S.own i b xs e
    exact ⟨vs, q1, g _ _ q2, RepL.lift (fun a o h _ => g a o h) gn _ _ r⟩
  · rcases z with z | z
    · exact S.nb i b xs e z
    · obtain ⟨vs, _, q, _⟩ := S.own i b xs e
      rw [z, h] at q
      cases q
  · rcases z with z | z
    · obtain ⟨o, q⟩ := S.bt a z
      exact ⟨o, g a o q⟩
    · exact ⟨u, by rw [z]; exact hp⟩
/-- a call of a def of values, at the values -/
theorem call_go {r : Res RV} {Q : VK} (S : StRel K B ow σd σ H) (g : Go K mg W B ow σd σ H (r.bind fun r => .ok (r, σd)) Q) : GoF K mg (NN B ow σd) H r Q (EW W) := by
  cases r with
  | ok r =>
    intro v H' gr h
    refine g v H' ⟨gr.fr _ _, SubO.refl _, ?_⟩
    cases r with
    | val d => exact ⟨S.grow gr, h⟩
    | own xs =>
      obtain ⟨q, vs, e, h0, h1, rl⟩ := h
      refine ⟨q, vs, e, h0, S.nB h0, h1, S.shutG h0 gr h1, RepL.mono (fun _ _ h _ => h) (fun a z => ?_) _ _ rl⟩
      rcases z with (z | z) | z
      · exact .inl (.inl z)
      · exact .inr z
      · exact .inl (.inr z)
  | exc c x =>
    intro cls dd H' gr h σ'
    refine g cls dd σ' H' ⟨gr.fr _ _, h.1, ?_⟩
    obtain ⟨_, px⟩ := h
    cases x with
    | none => trivial
    | some fd =>
      obtain ⟨a, v, e1, e2, N', hN, r⟩ := px
      exact ⟨a, v, e1, e2, N', fun a z => hN a (.inl z), r⟩
  | bad => exact g
theorem e_call (tk : Takes X W) (Fn : FnG X.prog X.w X.K X.mg X.base k f fd ps (spP X.K X.mg n F)) (hr : Room k X.A) (hG : X.A.guards = some []) (hg : Gl X x) (hm : X.mg x = some (.ref f)) (hk : PySem.W.keepIn X.K (.ref f) = true) (hb : Binds X.K fd ps [])
    (ha : AX X W (e :: es) da) (hdb : (x == ("__debug__" : Str)) = false := by decide) (he : starEach (e :: es) X.env = (false, eval e X.env) :: starEach es X.env := by rfl) (hpl : (backTo pos (starEach es X.env)).any (·.1) = false := by rfl) :
    EX X W (.Call (.Name x p) (e :: es) [] pos) (eCall n F da) := by
  refine ex_of (pe_callG Fn hr hG hg hm hk hb (passes_call (W := W) (E := EW W) tk fun cls d σ H h => h σ) ha hdb he hpl) fun σ H Q B ow σd S g => ?_
  refine Go.rdb S g fun p vs H1 P g1 => ?_
  split at g1
  · rename_i c
    exact ⟨P.repL.length.trans c, NN B ow p.2, p.1, P.st.trk, P.repL, call_go P.st g1⟩
  · exact g1.elim
theorem getD_rep {N : Addr → Prop} {ds : List D} {vs : List V} (r : RepL K H N ds vs) (j : Nat) : Rep K H N (ds.getD j .non) (vs.getD j .non) := by
  rw [List.getD_eq_getElem?_getD, List.getD_eq_getElem?_getD]
  cases e : ds[j]? with
  | none =>
    have : vs[j]? = none := List.getElem?_eq_none_iff.mpr (by have := List.getElem?_eq_none_iff.mp e; rw [r.length]; exact this)
    rw [this]
    exact rfl
  | some d =>
    obtain ⟨v, e1, rv⟩ := r.get e
    rw [e1]
    exact rv
theorem perm_rep {N : Addr → Prop} {ds : List D} {vs : List V} (r : RepL K H N ds vs) : ∀ π : List Nat, RepL K H N (perm D.non π ds) (perm V.non π vs)
  | [] => rfl
  | j :: π => ⟨_, _, rfl, getD_rep r j, perm_rep r π⟩
theorem e_callK {π : List Nat} (tk : Takes X W) (Fn : FnG X.prog X.w X.K X.mg X.base k f fd ps (spP X.K X.mg n F)) (hr : Room k X.A) (hG : X.A.guards = some []) (hg : Gl X x) (hm : X.mg x = some (.ref f)) (hk : PySem.W.keepIn X.K (.ref f) = true) (hb : KwB fd ps ks π)
    (ha : KX X W kws da) (hπ : π.length = n := by rfl) (hlen : kws.length = ks.length := by rfl) (hall : (backToKw pos (keywordEach kws X.env)).all (·.1.isSome) = true := by rfl) (hks : (backToKw pos (keywordEach kws X.env)).filterMap (·.1) = ks := by rfl)
    (hdb : (x == ("__debug__" : Str)) = false := by decide) (hpl : ((backTo pos (starEach [] X.env)).any (·.1) || (backToKw pos (keywordEach kws X.env)).any (·.1.isNone)) = false := by rfl) :
    EX X W (.Call (.Name x p) [] kws pos) (eCallK ks.length F π da) := by
  refine ex_of (pe_callGK Fn hr hG hg hm hk hb (passes_call (W := W) (E := EW W) tk fun cls d σ H h => h σ) ha hlen hall hks hdb hpl) fun σ H Q B ow σd S g => ?_
  refine Go.rdb S g fun p vs H1 P g1 => ?_
  split at g1
  · rename_i c
    exact ⟨P.repL.length.trans c, by unfold perm; rw [List.length_map]; exact hπ, NN B ow p.2, perm D.non π p.1, P.st.trk, perm_rep P.repL π, call_go P.st g1⟩
  · exact g1.elim
theorem e_callU (Fn : FnG X.prog X.w X.K X.mg X.base k f fd ps (spU X.K X.mg n G)) (hr : Room k X.A) (hG : X.A.guards = some []) (hg : Gl X x) (hm : X.mg x = some (.ref f)) (hk : PySem.W.keepIn X.K (.ref f) = true) (hb : Binds X.K fd ps [])
    (hv : PE X (.Name y xp) (tVar i)) (ha : AX X W es da) (hdb : (x == ("__debug__" : Str)) = false := by decide) (he : starEach (.Name y xp :: es) X.env = (false, eval (.Name y xp) X.env) :: starEach es X.env := by rfl) (hpl : (backTo pos (starEach es X.env)).any (·.1) = false := by rfl) :
    EX X W (.Call (.Name x p) (.Name y xp :: es) [] pos) (eCallU n G i da) := by
  refine ex_of (pe_callG (E := fun _ _ _ => False) Fn hr hG hg hm hk hb (fun _ _ _ _ _ _ _ h => passL _ _ _ _ _ _ ‹_› h) (pa_cons hv ha he) hdb he hpl) fun σ H Q B ow σd S g => ?_
  unfold eCallU at g
  split at g
  · rename_i t xs0 e0
    obtain ⟨us0, es0, _, _⟩ := S.own i t xs0 e0
    refine ⟨.ref (ow i), es0, ?_⟩
    refine Go.rdb S g fun q vs H1 P g1 => ?_
    split at g1
    · rename_i b xs e2
      obtain ⟨us, es2, hl, rl⟩ := P.st.own i b xs e2
      split at g1
      · rename_i c
        -- the addresses that the callee is not to meet: all of ours but slot i's own
        have hN : ∀ a, Bp (fun a => NN B ow q.2 a ∧ a ≠ ow i) (ow i) a ↔ NN B ow q.2 a := fun a => by
          constructor
          · rintro (z | z)
            · exact z.1
            · rw [z]; exact .inr ⟨i, b, xs, e2, rfl⟩
          · intro z
            by_cases h : a = ow i
            · exact .inr h
            · exact .inl ⟨z, h⟩
        refine ⟨by rw [List.length_cons, P.repL.length]; exact c, fun a => NN B ow q.2 a ∧ a ≠ ow i, ow i, us, xs, q.1, vs, rfl, fun z => z.2 rfl, fun a z => P.st.trk a z.1, hl, RepL.mono (fun _ _ h _ => h) (fun a z => (hN a).1 z) _ _ rl, RepL.mono (fun _ _ h _ => h) (fun a z => (hN a).1 z) _ _ P.repL, ?_⟩
        cases e3 : G xs q.1 with
        | ok w =>
          obtain ⟨r, ys⟩ := w
          rw [e3] at g1
          intro v H' fr hq
          obtain ⟨us', hp', hq⟩ := hq
          have sub : SubO q.2 (q.2.set i (.own b ys)) := fun j c zs e => by
            rcases set_get e with ⟨z, w⟩ | ⟨_, z⟩
            · cases w
              subst z
              exact ⟨xs, e2⟩
            · exact ⟨zs, z⟩
          have f' : Fr0 ow q.2 H1 H' := fun a o h => by
            refine ⟨?_, fun n => fr a o h fun z => n ⟨i, b, xs, e2, z.symm⟩⟩
            by_cases z : a = ow i
            · exact ⟨_, by rw [z]; exact hp'⟩
            · exact ⟨o, fr a o h z⟩
          have gn : ∀ a, NN B ow (q.2.set i (.own b ys)) a → NN B ow q.2 a := fun a z => sub.nn z
          have keepN : ∀ a o, H1 a = some o → ¬ NN B ow q.2 a → H' a = some o := fun a o e n => fr a o e fun z => n (by rw [z]; exact .inr ⟨i, b, xs, e2, rfl⟩)
          have mk : ∀ B', (∀ a, B a → B' a) → (∀ a, NN B' ow (q.2.set i (.own b ys)) a → NN B ow q.2 a ∨ H1 a = none) → (∀ j c zs, q.2[j]? = some (SV.own c zs) → ¬ B' (ow j)) → (∀ a, B' a → ∃ o, H' a = some o) → RepL X.K H' (NN B' ow (q.2.set i (.own b ys))) ys us' → StRel X.K B' ow (q.2.set i (.own b ys)) σ H' := fun B' hB gB nB' bt' ry => by
            refine ⟨by rw [List.length_set]; exact P.st.len, fun j d' e => ?_, fun j c zs e => ?_, fun j k c c' y1 y2 e e' w => ?_, fun j c zs e => ?_, bt'⟩
            · rcases set_get e with ⟨_, w⟩ | ⟨_, z⟩
              · cases w
              · obtain ⟨u, w, r'⟩ := P.st.val j d' z
                exact ⟨u, w, r'.lift keepN gB⟩
            · rcases set_get e with ⟨z, w⟩ | ⟨n, z⟩
              · cases w
                subst z
                exact ⟨us', es2, hp', ry⟩
              · obtain ⟨ws, w1, w2, r'⟩ := P.st.own j c zs z
                exact ⟨ws, w1, fr _ _ w2 fun z' => n (P.st.inj i j b c xs zs e2 z z'.symm), RepL.lift keepN gB _ _ r'⟩
            · obtain ⟨a1, h1⟩ := sub j c y1 e
              obtain ⟨a2, h2⟩ := sub k c' y2 e'
              exact P.st.inj j k c c' a1 a2 h1 h2 w
            · obtain ⟨a1, h1⟩ := sub j c zs e
              exact nB' j c a1 h1
          have btB : ∀ a, B a → ∃ o, H' a = some o := fun a z => by
            obtain ⟨o, h⟩ := P.st.bt a z
            exact (f' a o h).1
          cases r with
          | val d =>
            obtain ⟨ry, rv⟩ := hq
            refine g1 v H' ⟨f', sub, mk B (fun _ h => h) (fun a z => .inl (gn a z)) P.st.nb btB (RepL.mono (fun _ _ h _ => h) (fun a z => (hN a).2 (gn a z)) _ _ ry), rv.mono (fun _ _ h _ => h) fun a z => (hN a).2 (gn a z)⟩
          | own zs =>
            obtain ⟨q', vs', ev, q0, q1, ry, rz⟩ := hq
            have nq : ¬ B q' := P.st.nB q0
            have gq : ∀ a, NN (Bp B q') ow (q.2.set i (.own b ys)) a → Bp (Bp (fun a => NN B ow q.2 a ∧ a ≠ ow i) (ow i)) q' a := fun a z => by
              rcases z with (z | z) | z
              · exact .inl ((hN a).2 (.inl z))
              · exact .inr z
              · exact .inl ((hN a).2 (.inr (sub.ownA z)))
            refine g1 v H' ⟨f', sub, q', vs', ev, q0, nq, q1, mk (Bp B q') (fun _ h => .inl h) (fun a z => ?_) (fun j c zs e z => ?_) (fun a z => ?_) (RepL.mono (fun _ _ h _ => h) gq _ _ ry), RepL.mono (fun _ _ h _ => h) gq _ _ rz⟩
            · rcases z with (z | z) | z
              · exact .inl (.inl z)
              · rw [z]; exact .inr q0
              · exact .inl (.inr (sub.ownA z))
            · rcases z with z | z
              · exact P.st.nb j c zs e z
              · obtain ⟨ws, _, w, _⟩ := P.st.own j c zs e
                rw [z, q0] at w
                cases w
            · rcases z with z | z
              · exact btB a z
              · exact ⟨_, by rw [z]; exact q1⟩
        | exc c x => rw [e3] at g1; exact g1.elim
        | bad => rw [e3] at g1; exact g1.elim
      · exact g1.elim
    · exact g1.elim
  · exact g.elim
theorem e_callN (Fn : FnG X.prog X.w X.K X.mg X.base k f fd ps (spU X.K X.mg 1 G)) (hr : Room k X.A) (hG : X.A.guards = some []) (hg : Gl X x) (hm : X.mg x = some (.ref f)) (hk : PySem.W.keepIn X.K (.ref f) = true) (hb : Binds X.K fd ps [])
    (ha : EX X W e de) (hdb : (x == ("__debug__" : Str)) = false := by decide) (he : starEach [e] X.env = (false, eval e X.env) :: starEach [] X.env := by rfl) (hpl : (backTo pos (starEach [] X.env)).any (·.1) = false := by rfl) :
    EX X W (.Call (.Name x p) [e] [] pos) (eCallN G de) := by
  refine ex_of (pe_callG (E := fun _ _ _ => False) Fn hr hG hg hm hk hb (fun _ _ _ _ _ _ _ h => passL _ _ _ _ _ _ ‹_› h) (pa_cons ha pa_nil he) hdb he hpl) fun σ H Q B ow σd S g => ?_
  refine ⟨B, ow, σd, S, ?_⟩
  unfold eCallN at g
  cases e1 : de σd with
  | ok q =>
    obtain ⟨r, σ1⟩ := q
    rw [e1, Res.bind_ok] at g
    intro v H1 P
    cases r with
    | val d => exact g.elim
    | own xs =>
      obtain ⟨f1, s1, P⟩ := P
      obtain ⟨q0, us, rfl, k0, kb, k1, S1, rl⟩ := (show finRV X.K B ow σ H (.own xs) σ1 v H1 from P)
      dsimp only at g
      have nq : ¬ NN B ow σ1 q0 := fun z => z.elim kb fun ⟨j, b, ys, e, w⟩ => S1.nb j b ys e (.inr w)
      have S0 : StRel X.K B ow σ1 σ H1 := S1.weak fun a z => .inl z
      refine ⟨rfl, NN B ow σ1, q0, us, xs, [], [], rfl, nq, S0.trk, k1, RepL.mono (fun _ _ h _ => h) (fun a z => by
        rcases z with (z | z) | z
        · exact .inl (.inl z)
        · exact .inr z
        · exact .inl (.inr z)) _ _ rl, rfl, ?_⟩
      cases e3 : G xs [] with
      | ok w =>
        obtain ⟨r, ys⟩ := w
        rw [e3] at g
        cases r with
        | val d =>
          intro v H' fr hq
          obtain ⟨us', hp', _, rv⟩ := hq
          have keep1 : ∀ a o, H1 a = some o → ¬ NN (Bp B q0) ow σ1 a → H' a = some o := fun a o e n => fr a o e fun z => n (.inl (.inr z))
          have S' : StRel X.K (Bp B q0) ow σ1 σ H' := by
            refine ⟨S1.len, fun j d' e => ?_, fun j c zs e => ?_, S1.inj, S1.nb, fun a z => ?_⟩
            · obtain ⟨u, w, r'⟩ := S1.val j d' e
              exact ⟨u, w, r'.mono keep1 fun _ z => z⟩
            · obtain ⟨ws, w1, w2, r'⟩ := S1.own j c zs e
              exact ⟨ws, w1, fr _ _ w2 fun z => S1.nb j c zs e (.inr z), RepL.mono keep1 (fun _ z => z) _ _ r'⟩
            · by_cases z' : a = q0
              · exact ⟨_, by rw [z']; exact hp'⟩
              · obtain ⟨o, h⟩ := S1.bt a z
                exact ⟨o, fr a o h z'⟩
          refine g v H' ⟨fun a o h => ?_, s1, S'.weak fun a z => .inl z, rv.mono (fun _ _ h _ => h) fun a z => .inl z⟩
          have n : a ≠ q0 := ne_of_none h k0
          obtain ⟨⟨o1, h1⟩, h2⟩ := f1 a o h
          exact ⟨⟨o1, fr a o1 h1 n⟩, fun z => fr a o (h2 z) n⟩
        | own zs => exact g.elim
      | exc c x => rw [e3] at g; exact g.elim
      | bad => rw [e3] at g; exact g.elim
  | exc c x => rw [e1] at g; exact g
  | bad => rw [e1] at g; exact g
end
end PL
/-! PL10: isinstance, repr, ranges to tuples, gcd, sorted. -/
namespace PL
open PySem PySem.Spec PyProof.Rows L2
section
variable {X : Cx} {W : WX} {e a b : Expr} {es : List Expr} {da db : DE} {ds : DA} {pos p : Pos} {x : Str}
/-! ### isinstance -/
def tyN : D → Option String
  | .non => some "NoneType"
  | .bl _ => some "bool"
  | .int _ => some "int"
  | .str _ => some "str"
  | .tup _ => some "tuple"
  | .lst _ => some "list"
  | .scr _ => some "list"
  | .ty _ => none
  | .ref _ => none
def fIsi : List D → Option RV
  | [d, .ty n] => match tyN d with
    | some t => (kitB t n).map fun b => .val (.bl b)
    | none => none
  | _ => none
theorem opl_isi : OpPL X.K (rIsi X.K) fIsi := by
  intro B ow σd σ H ds rz vs Q S r e q
  unfold fIsi at e
  split at e
  · rename_i d n
    obtain ⟨v, u, rfl, rv, (rfl : u = _)⟩ := repL2 r
    split at e
    · rename_i t et
      obtain ⟨c, ec, rfl⟩ := map_some e
      refine ⟨v, .ty n, .type t, .type n, c, rfl, .ty n, ?_, kit_ty ec, q _ _ (post_same S rfl)⟩
      cases d with
      | non => cases et; cases (show v = _ from rv); exact .base .non
      | bl y => cases et; cases (show v = _ from rv); exact .base (.bl y)
      | int y => cases et; cases (show v = _ from rv); exact .base (.int y)
      | str y => cases et; cases (show v = _ from rv); exact .base (.str y)
      | tup xs => cases et; obtain ⟨p, us, rfl, _, h, _⟩ := rv; exact .base (.tup h)
      | lst xs => cases et; obtain ⟨p, us, rfl, _, h, _⟩ := rv; exact .base (.lst h)
      | scr ns =>
        cases et
        obtain ⟨p, rfl, ⟨_, o, h⟩ | ⟨o, _, _, h, hc, _⟩⟩ := rv
        · exact .base (.frz h)
        · exact .kList h hc
      | ty m => cases et
      | ref m => cases et
    · cases e
  · cases e
/-! ### repr -/
def rRepr (K : PySem.W.Frag) : List V → Hp → VK → Prop := fun xs H Q => ∃ (a : Addr) (p : PyData), xs = [.ref a] ∧ Dp K H (.ref a) p ∧ p.showable = true ∧ p.hasDict = false ∧ p.depth ≤ 60 ∧ p.shown.length ≤ sizeLine ∧ Q (.str p.shown) H
theorem cr_repr (hg : X.A.guards = some []) (hu : X.A.units + 64 < cLine) : CallR X (.builtin "repr") (rRepr X.K) := by
  intro pins s σ H xs us Q I r h
  obtain ⟨a, p, rfl, hp, h1, h2, h3, h4, q⟩ := h
  obtain ⟨u, rfl, ru⟩ := r.one
  cases ru
  obtain ⟨as, hr⟩ := Dp.reads I p _ _ hp rfl
  refine repr_of_reads' hr h1 (PyData.noDict_hsm h2) hg (by omega) (fun _ _ e => e) (fun h' u tk hk => ?_) h4
  exact ⟨.str p.shown, H, I.kept hk, ⟨_, rfl⟩, q⟩
def fRepr : List D → Option RV
  | [.lst xs] => match toPy (.lst xs) with
    | some p => if p.showable = true ∧ p.hasDict = false ∧ p.depth ≤ 60 ∧ p.shown.length ≤ sizeLine then some (.val (.str p.shown)) else none
    | none => none
  | [.tup xs] => match toPy (.tup xs) with
    | some p => if p.showable = true ∧ p.hasDict = false ∧ p.depth ≤ 60 ∧ p.shown.length ≤ sizeLine then some (.val (.str p.shown)) else none
    | none => none
  | _ => none
theorem opl_repr : OpPL X.K (rRepr X.K) fRepr := by
  intro B ow σd σ H ds rz vs Q S r e q
  unfold fRepr at e
  split at e
  · split at e
    · rename_i p ep
      split at e
      · rename_i c
        cases e
        obtain ⟨v, rfl, rv⟩ := repL1 r
        have hd := rv.dp _ _ _ ep
        obtain ⟨t, us, rfl, _⟩ := rv
        exact ⟨t, p, rfl, hd, c.1, c.2.1, c.2.2.1, c.2.2.2, q _ _ (post_same S rfl)⟩
      · cases e
    · cases e
  · split at e
    · rename_i p ep
      split at e
      · rename_i c
        cases e
        obtain ⟨v, rfl, rv⟩ := repL1 r
        have hd := rv.dp _ _ _ ep
        obtain ⟨t, us, rfl, _⟩ := rv
        exact ⟨t, p, rfl, hd, c.1, c.2.1, c.2.2.1, c.2.2.2, q _ _ (post_same S rfl)⟩
      · cases e
    · cases e
  · cases e
/-! ### gcd -/
def fGcd : List D → Option RV
  | [.int i, .int j] => some (.val (.int ((Nat.gcd i.natAbs j.natAbs : Nat) : Int)))
  | _ => none
theorem opl_gcd : OpPL X.K rGcd fGcd := by
  intro B ow σd σ H ds rz vs Q S r e q
  unfold fGcd at e
  split at e
  · cases e
    obtain ⟨v, u, rfl, (rfl : v = _), (rfl : u = _)⟩ := repL2 r
    exact ⟨_, _, rfl, q _ _ (post_same S rfl)⟩
  · cases e
theorem e_gcd (hg : Gl X x) (hm : X.mg x = some (.builtin "math.gcd")) (ha : AX X W (e :: es) ds) (hdb : (x == ("__debug__" : Str)) = false := by decide)
    (he : starEach (e :: es) X.env = (false, eval e X.env) :: starEach es X.env := by rfl) (hpl : (backTo pos (starEach es X.env)).any (·.1) = false := by rfl) : EX X W (.Call (.Name x p) (e :: es) [] pos) (eL fGcd ds) :=
  ex_of (pe_callBfun cr_gcd hg hm ha hdb he hpl) fun σ H Q B ow σd S g => rd_L opl_gcd S g
/-! ### tuple(range(..)), list(range(..)) -/
def rgD (i j : Int) : List D := (List.range (j - i).toNat).map fun k => D.int (i + (k : Nat))
theorem rgD_rep {K : PySem.W.Frag} {H : Hp} {N : Addr → Prop} (i j : Int) : RepL K H N (rgD i j) (rgV i j) := by
  unfold rgD rgV
  have : ∀ l : List Nat, RepL K H N (l.map fun k => D.int (i + (k : Nat))) (l.map fun k => V.int (i + (k : Nat))) := fun l => by
    induction l with
    | nil => exact rfl
    | cons a l ih => exact ⟨_, _, rfl, rfl, ih⟩
  exact this _
def fRg (f : List D → RV) (i j : Int) : Option RV := if -(2 ^ 62) ≤ i ∧ i < 2 ^ 62 ∧ -(2 ^ 62) ≤ j ∧ j < 2 ^ 62 ∧ (j - i).toNat ≤ 2 ^ 24 then some (f (rgD i j)) else none
def fRg1 (f : List D → RV) : D → Option RV
  | .int j => fRg f 0 j
  | _ => none
def fRg2 (f : List D → RV) : D → D → Option RV
  | .int i, .int j => fRg f i j
  | _, _ => none
abbrev rvT (xs : List D) : RV := .val (.tup xs)
abbrev rvL (xs : List D) : RV := .own xs
theorem e_tupRg2 (hc : X.calm = true) (hg : Gl X "tuple") (hm : X.mg "tuple" = none) (hg2 : Gl X "range") (hm2 : X.mg "range" = none) (ha : EX X W a da) (hb : EX X W b db) {p2 p3 : Pos} (na : starEach [a, b] X.env = (false, eval a X.env) :: starEach [b] X.env := by rfl) (nb : starEach [b] X.env = (false, eval b X.env) :: starEach [] X.env := by rfl) (hp : (backTo p3 (starEach [b] X.env)).any (·.1) = false := by rfl) : EX X W (.Call (.Name "tuple" p) [.Call (.Name "range" p2) [a, b] [] p3] [] pos) (e2 (fRg2 rvT) da db) := by
  refine ex_of (pe_tupRg hc hg hm (prg_2 hg2 hm2 ha hb na nb hp)) fun σ H Q B ow σd S g => ?_
  refine Go.rdb S g fun p v H1 P1 g1 => ?_
  refine Go.rdb P1.st g1 fun q w H2 P2 g2 => ?_
  have r1 := P1.rep.keep P2.fr P2.sub
  have r2 := P2.rep
  unfold fRg2 at g2
  split at g2
  · rename_i z ez
    split at ez
    · rename_i i j e1 e2
      rw [e1] at r1
      rw [e2] at r2
      unfold fRg at ez
      split at ez
      · rename_i c
        cases ez
        exact ⟨i, j, r1, r2, c, fun n hn => g2 _ _ (post_newT P2.st hn (rgD_rep i j))⟩
      · cases ez
    · cases ez
  · exact g2.elim
theorem e_lstRg2 (hc : X.calm = true) (hg : Gl X "list") (hm : X.mg "list" = none) (hg2 : Gl X "range") (hm2 : X.mg "range" = none) (ha : EX X W a da) (hb : EX X W b db) {p2 p3 : Pos} (na : starEach [a, b] X.env = (false, eval a X.env) :: starEach [b] X.env := by rfl) (nb : starEach [b] X.env = (false, eval b X.env) :: starEach [] X.env := by rfl) (hp : (backTo p3 (starEach [b] X.env)).any (·.1) = false := by rfl) : EX X W (.Call (.Name "list" p) [.Call (.Name "range" p2) [a, b] [] p3] [] pos) (e2 (fRg2 rvL) da db) := by
  refine ex_of (pe_listRg hc hg hm (prg_2 hg2 hm2 ha hb na nb hp)) fun σ H Q B ow σd S g => ?_
  refine Go.rdb S g fun p v H1 P1 g1 => ?_
  refine Go.rdb P1.st g1 fun q w H2 P2 g2 => ?_
  have r1 := P1.rep.keep P2.fr P2.sub
  have r2 := P2.rep
  unfold fRg2 at g2
  split at g2
  · rename_i z ez
    split at ez
    · rename_i i j e1 e2
      rw [e1] at r1
      rw [e2] at r2
      unfold fRg at ez
      split at ez
      · rename_i c
        cases ez
        exact ⟨i, j, r1, r2, c, fun n hn => g2 _ _ (post_newL P2.st hn (rgD_rep i j))⟩
      · cases ez
    · cases ez
  · exact g2.elim
theorem e_tupRg1 (hc : X.calm = true) (hg : Gl X "tuple") (hm : X.mg "tuple" = none) (hg2 : Gl X "range") (hm2 : X.mg "range" = none) (ha : EX X W a da) {p2 p3 : Pos} (na : starEach [a] X.env = (false, eval a X.env) :: starEach [] X.env := by rfl) : EX X W (.Call (.Name "tuple" p) [.Call (.Name "range" p2) [a] [] p3] [] pos) (e1 (fRg1 rvT) da) := by
  refine ex_of (pe_tupRg hc hg hm (prg_1 hg2 hm2 ha na)) fun σ H Q B ow σd S g => ?_
  refine Go.rdb S g fun p v H1 P1 g1 => ?_
  have r1 := P1.rep
  unfold fRg1 at g1
  split at g1
  · rename_i z ez
    split at ez
    · rename_i j e1
      rw [e1] at r1
      unfold fRg at ez
      split at ez
      · rename_i c
        cases ez
        exact ⟨j, r1, c, fun n hn => g1 _ _ (post_newT P1.st hn (rgD_rep 0 j))⟩
      · cases ez
    · cases ez
  · exact g1.elim
theorem e_lstRg1 (hc : X.calm = true) (hg : Gl X "list") (hm : X.mg "list" = none) (hg2 : Gl X "range") (hm2 : X.mg "range" = none) (ha : EX X W a da) {p2 p3 : Pos} (na : starEach [a] X.env = (false, eval a X.env) :: starEach [] X.env := by rfl) : EX X W (.Call (.Name "list" p) [.Call (.Name "range" p2) [a] [] p3] [] pos) (e1 (fRg1 rvL) da) := by
  refine ex_of (pe_listRg hc hg hm (prg_1 hg2 hm2 ha na)) fun σ H Q B ow σd S g => ?_
  refine Go.rdb S g fun p v H1 P1 g1 => ?_
  have r1 := P1.rep
  unfold fRg1 at g1
  split at g1
  · rename_i z ez
    split at ez
    · rename_i j e1
      rw [e1] at r1
      unfold fRg at ez
      split at ez
      · rename_i c
        cases ez
        exact ⟨j, r1, c, fun n hn => g1 _ _ (post_newL P1.st hn (rgD_rep 0 j))⟩
      · cases ez
    · cases ez
  · exact g1.elim
/-! ### a global that is a number; a built-in type -/
theorem e_gint {i : Int} (hg : Gl X x) (hm : ∃ t, X.mg x = some (.int i t)) (hd : (x == ("__debug__" : Str)) = false := by decide) : EX X W (.Name x p) (dC (.int i)) := by
  obtain ⟨t, h⟩ := hm
  exact ex_c (v := .int i) (pe_glob hg h ⟨t, rfl⟩ hd) fun _ _ => rfl
theorem e_bty {T : String} (hg : Gl X x) (hm : X.mg x = none) (hv : bootBuiltins x = some (.type T)) (hn : x ≠ "__name__" := by decide) (hd : (x == ("__debug__" : Str)) = false := by decide) : EX X W (.Name x p) (dC (.ty T)) :=
  ex_c (v := .ty T) (pe_bltn hg hm hv rfl hn hd) fun _ _ => rfl
/-! ### a statement that is never reached -/
def dNever : DS := fun _ => .bad
theorem s_never {st : Stmt} {t : TS} (h : PS X st t) : SX X W st dNever := PS.imp h fun D σ H ⟨B, ow, σd, S, g⟩ => g.elim
end
end PL
/-! PL11: the law's own call, from the promise of its def. -/
namespace PL
open PySem PySem.Spec PyProof.Rows L2
/-- the law's def answers True at the script ns -/
def LawTrue (n : Nat) (F : Fd) : Prop := ∀ ns : List Int, ns.length ≤ n → F [.scr ns] = .ok (.val (.bl true))
section
variable {P : Program} {w : World} {K : PySem.W.Frag} {mg mb : Str → Option Value} {k n : Nat} {fa a : Addr} {fd : FuncData} {x : Str} {F : Fd} {s₁ : Shared} {vs : List Value} {ns : List Int}
/-- one abstract heap, in which at most the script is tracked -/
theorem law_at {H : Hp} (KX : K.In s₁.heap) (hns : s₁.heap.Ns mainGlobals mg) (hb : s₁.heap.Ns builtinsNs mb) (hbb : ∀ x : Str, x ≠ "__name__" → mb x = bootBuiltins x) (hlim : s₁.heap.NoLimit) (hg : s₁.gens = #[])
    (ha : s₁.heap.get? a = some { cls := .type "list", data := .seq vs.toArray }) (hr : Room k callerA)
    (G : ∀ base : Heap, K.In base → base.Ns mainGlobals mg → FnG P w K mg base k fa fd [x] (spP K mg 1 F)) (hbind : ∀ (s : Shared) (u : Value), BindsTo s fd ⟨[u], []⟩ [(x, u)]) (hF : F [.scr ns] = .ok (.val (.bl true)))
    (hR : Rep K H (fun _ => False) (.scr ns) (.ref a)) (hok : HOk P w H s₁.heap) (hA : ∀ b u, H b = some u → b = a ∧ ∃ o xs, u = .frz o (.lst xs)) (hK : H a ≠ none → K.lookup a = none) :
    codeAny (model P w) callerA (.call (.ref fa) ⟨[.ref a], []⟩) (fun r s' => r = .ok (.ret (.bool true)) ∧ OldK s₁.heap s'.heap ∧ s'.os = s₁.os ∧ AllBare s'.gens) s₁ := by
  have out : ∀ {b : Addr} {o : Obj}, s₁.heap.get? b = some o → b ≠ a → (hidT s₁.heap H).get? b = some o := fun {b o} e n => hidT_get e (by
    cases q : H b with
    | none => rfl
    | some u => exact absurd (hA b u q).1 n)
  have nsK : ∀ {b : Addr} {m : Str → Option Value}, s₁.heap.Ns b m → (hidT s₁.heap H).Ns b m := fun {b m} ⟨o, es, ep, e, d, r⟩ => ⟨o, es, ep, out e (fun z => by
    rw [z, ha] at e
    cases e
    exact Data.noConfusion d), d, r⟩
  have hKb : K.In (hidT s₁.heap H) := fun b o e => by
    by_cases z : b = a
    · subst z
      refine hidT_get (KX b o e) ?_
      cases q : H b with
      | none => rfl
      | some u => rw [hK (by rw [q]; simp)] at e; cases e
    · exact out (KX b o e) z
  have hM : Mod K mg (hidT s₁.heap H) := ⟨hKb, nsK hns, ⟨mb, nsK hb, hbb⟩, let ⟨mc, h1, h2⟩ := hlim; ⟨mc, nsK h1, h2⟩⟩
  have e0 : Env0 P w K mg (hidT s₁.heap H) callerA [] s₁ H := ⟨rfl, hM, fun b o e => of_hidT e, Nat.le_of_eq (hidT_size _ _), trivial, fun b hb => absurd (show b ∈ ([] : List Addr) from hb) (by simp), hok, .of_eq hg⟩
  refine codeAny_mono ((G _ hKb (nsK hns)).run callerA [] s₁ H ⟨[.ref a], []⟩ [.ref a] [.ref a] (fun v _ => v = .bl true) (fun _ _ _ => False) hr rfl e0 (hbind s₁ (.ref a)) (.cons rfl .nil) ⟨rfl, fun _ => False, [.scr ns], fun _ z => z.elim, ⟨_, _, rfl, hR, rfl⟩, ?_⟩) fun r s' h => ?_
  · rw [hF]
    exact fun v H' _ q => q
  · cases r with
    | error e =>
      obtain ⟨_, _, _, _, _, _, _, _, _, _, _, _, z⟩ := (show L2.CX P w [] H s₁ (fun _ _ _ => False) e s' from h)
      exact z.elim
    | ok fl =>
      cases fl with
      | next => exact False.elim h
      | brk => exact False.elim h
      | cont => exact False.elim h
      | ret u =>
        obtain ⟨v, H', os, bare, un, hok', r', q⟩ := h
        have q' : v = .bl true := q
        subst q'
        obtain rfl : u = Value.bool true := r'
        refine ⟨rfl, OldK.of_keep fun b o e => ?_, os, bare⟩
        cases q : H b with
        | none => exact un.keep b o e q (by intro z; exact absurd (show b ∈ ([] : List Addr) from z) (by simp)) (by simp)
        | some u =>
          obtain ⟨_, ob, xs, rfl⟩ := hA b u q
          obtain ⟨e1, _⟩ := hok b _ q
          obtain ⟨e2, _⟩ := hok' b _ (un.frzs b ob _ q)
          rw [e] at e1; cases e1
          exact e2
theorem law_run (KX : K.In s₁.heap) (hns : s₁.heap.Ns mainGlobals mg) (hb : s₁.heap.Ns builtinsNs mb) (hbb : ∀ x : Str, x ≠ "__name__" → mb x = bootBuiltins x) (hlim : s₁.heap.NoLimit) (hg : s₁.gens = #[])
    (ha : s₁.heap.get? a = some { cls := .type "list", data := .seq vs.toArray }) (hi : IntsAre vs ns) (hl : ns.length ≤ sizeLine) (hr : Room k callerA)
    (G : ∀ base : Heap, K.In base → base.Ns mainGlobals mg → FnG P w K mg base k fa fd [x] (spP K mg 1 F)) (hbind : ∀ (s : Shared) (u : Value), BindsTo s fd ⟨[u], []⟩ [(x, u)]) (hF : F [.scr ns] = .ok (.val (.bl true))) :
    codeAny (model P w) callerA (.call (.ref fa) ⟨[.ref a], []⟩) (fun r s' => r = .ok (.ret (.bool true)) ∧ OldK s₁.heap s'.heap ∧ s'.os = s₁.os ∧ AllBare s'.gens) s₁ := by
  have rv := vals_ints hi
  have lenV := hi.length
  cases hk : K.lookup a with
  | some o =>
    have e := KX a o hk
    rw [ha] at e
    cases e
    refine law_at (H := fun _ => none) KX hns hb hbb hlim hg ha hr G hbind hF ⟨a, rfl, .inr ⟨_, vs.toArray, _, hk, rfl, rfl, rfl, by rw [List.size_toArray, lenV]; exact hl, by simpa using rv⟩⟩ (fun b u z => by cases (show (none : Option HO) = some u from z)) (fun b u z => by cases (show (none : Option HO) = some u from z)) fun z => absurd rfl z
  | none =>
    have at_ : ∀ b u, (if b = a then some (HO.frz { cls := .type "list", data := .seq vs.toArray } (.lst (ns.map V.int))) else none) = some u → b = a ∧ u = .frz { cls := .type "list", data := .seq vs.toArray } (.lst (ns.map V.int)) := fun b u z => by
      split at z
      · rename_i hb
        cases z
        exact ⟨hb, rfl⟩
      · cases z
    refine law_at (H := fun b => if b = a then some (.frz { cls := .type "list", data := .seq vs.toArray } (.lst (ns.map V.int))) else none) KX hns hb hbb hlim hg ha hr G hbind hF ⟨a, rfl, .inl ⟨id, _, if_pos rfl⟩⟩ (fun b u z => ?_) (fun b u z => ?_) fun _ => hk
    · obtain ⟨rfl, rfl⟩ := at_ b u z
      exact ⟨ha, by rw [List.length_map]; exact hl, vs, _, rv, ha⟩
    · obtain ⟨h1, h2⟩ := at_ b u z
      exact ⟨h1, _, _, h2⟩
end
/-- the goal that k_head leaves (case hc) -/
theorem walk_G {l : PySem.W.OpenLaw} {n k : Nat} {q : Program} {loose : List Str} {XP : (Str → Option Value) → Heap → Prop} {YP : World → Heap → Prop} {d : DefRec} {K : Params → PySem.W.Frag} {F : Fd} {x : Str}
    (hn : l.most = some n) (hn2 : n ≤ sizeLine) (hdf : d.params.defaults = []) (hr : Room k callerA)
    (hY : ∀ (w : World) (h : Heap), YP w h → (K w.params).In h)
    (G : ∀ (w : World) (mg : Str → Option Value) (fa : Addr) (h : Heap), (K w.params).In h → h.Ns mainGlobals mg → mg d.name = some (.ref fa) →
      ∃ fd : FuncData, (∀ (s : Shared) (u : Value), BindsTo s fd ⟨[u], []⟩ [(x, u)]) ∧ ∀ base : Heap, (K w.params).In base → base.Ns mainGlobals mg → FnG l.prog w (K w.params) mg base k fa fd [x] (spP (K w.params) mg 1 F))
    (hF : LawTrue n F) : PySem.W.WalkO q loose XP YP l.row.toRowW d [] (fun f vs => PySem.call f vs) := by
  refine Att.attach_call hn hdf fun w s₀ s₁ mg mb fa o pm cd doc a vs ns G0 Y ho hd hcd hmg hobj hints hlen hg => ?_
  have KX := hY w _ Y
  obtain ⟨fd, hb, hG⟩ := G w mg fa _ KX G0.T.g hmg
  exact law_run KX G0.T.g G0.T.b G0.T.builtins G0.T.nolimit hg hobj hints (Nat.le_trans hlen hn2) hr hG hb (hF ns hlen)
end PL
/-! PL12: rules in short, for printed derivations. -/
namespace PL
open PySem PySem.Spec PyProof.Rows L2
theorem bb_len : bootBuiltins "len" = some (.builtin "len") := by decide +kernel
theorem bb_abs : bootBuiltins "abs" = some (.builtin "abs") := by decide +kernel
theorem bb_max : bootBuiltins "max" = some (.builtin "max") := by decide +kernel
theorem bb_min : bootBuiltins "min" = some (.builtin "min") := by decide +kernel
theorem bb_sum : bootBuiltins "sum" = some (.builtin "sum") := by decide +kernel
theorem bb_all : bootBuiltins "all" = some (.builtin "all") := by decide +kernel
theorem bb_any : bootBuiltins "any" = some (.builtin "any") := by decide +kernel
theorem bb_divmod : bootBuiltins "divmod" = some (.builtin "divmod") := by decide +kernel
theorem bb_repr : bootBuiltins "repr" = some (.builtin "repr") := by decide +kernel
theorem bb_isinstance : bootBuiltins "isinstance" = some (.builtin "isinstance") := by decide +kernel
theorem bb_sorted : bootBuiltins "sorted" = some (.builtin "sorted") := by decide +kernel
theorem bb_int : bootBuiltins "int" = some (.type "int") := by decide +kernel
theorem bb_bool : bootBuiltins "bool" = some (.type "bool") := by decide +kernel
theorem bb_str : bootBuiltins "str" = some (.type "str") := by decide +kernel
theorem bb_tuple : bootBuiltins "tuple" = some (.type "tuple") := by decide +kernel
theorem bb_list : bootBuiltins "list" = some (.type "list") := by decide +kernel
section
variable {X : Cx} {W : WX} {e a b : Expr} {es : List Expr} {da db : DE} {ds : DA} {pos p : Pos} {x : Str} {st : Stmt}
theorem e_i {i j} : EX X W (.Constant (.int i) j pos) (dC (.int i)) := ex_c (v := .int i) pe_int fun _ _ => rfl
theorem e_b {i j} : EX X W (.Constant (.bool i) j pos) (dC (.bl i)) := ex_c (v := .bl i) pe_bl fun _ _ => rfl
theorem e_n {j} : EX X W (.Constant .none j pos) (dC .non) := ex_c (v := .non) pe_non fun _ _ => rfl
theorem e_s {i : Str} {j} : EX X W (.Constant (.str i) j pos) (dC (.str i)) := ex_c (v := .str i) pe_str fun _ _ => rfl
theorem ex_never : EX X W e (fun _ => .bad) := ⟨fun pins s σ H Q I ⟨B, ow, σd, S, g⟩ => (show False from g).elim⟩
theorem sx_never : SX X W st dNever := ⟨fun pins s σ H D I ⟨B, ow, σd, S, g⟩ => (show False from g).elim⟩
theorem tk0 : Takes X W0 := takes0
theorem e_len (hm : X.mg "len" = none) (ha : AX X W (e :: es) ds) (hg : Gl X "len" := by rfl) (he : starEach (e :: es) X.env = (false, eval e X.env) :: starEach es X.env := by rfl) (hpl : (backTo pos (starEach es X.env)).any (·.1) = false := by rfl) : EX X W (.Call (.Name "len" p) (e :: es) [] pos) (eL fLen ds) := e_cb call_len_seq opl_len hg hm bb_len ha (he := he) (hpl := hpl)
theorem e_abs (hm : X.mg "abs" = none) (ha : AX X W (e :: es) ds) (hg : Gl X "abs" := by rfl) (he : starEach (e :: es) X.env = (false, eval e X.env) :: starEach es X.env := by rfl) (hpl : (backTo pos (starEach es X.env)).any (·.1) = false := by rfl) : EX X W (.Call (.Name "abs" p) (e :: es) [] pos) (eL fAbs ds) := e_cb call_abs opl_abs hg hm bb_abs ha (he := he) (hpl := hpl)
theorem e_max2 (hc : X.calm = true) (hm : X.mg "max" = none) (ha : AX X W (e :: es) ds) (hg : Gl X "max" := by rfl) (he : starEach (e :: es) X.env = (false, eval e X.env) :: starEach es X.env := by rfl) (hpl : (backTo pos (starEach es X.env)).any (·.1) = false := by rfl) : EX X W (.Call (.Name "max" p) (e :: es) [] pos) (eL fMax2 ds) := e_cb (call_max2 hc) opl_max2 hg hm bb_max ha (he := he) (hpl := hpl)
theorem e_min2 (hc : X.calm = true) (hm : X.mg "min" = none) (ha : AX X W (e :: es) ds) (hg : Gl X "min" := by rfl) (he : starEach (e :: es) X.env = (false, eval e X.env) :: starEach es X.env := by rfl) (hpl : (backTo pos (starEach es X.env)).any (·.1) = false := by rfl) : EX X W (.Call (.Name "min" p) (e :: es) [] pos) (eL fMin2 ds) := e_cb (call_min2 hc) opl_min2 hg hm bb_min ha (he := he) (hpl := hpl)
theorem e_maxL (hc : X.calm = true) (hm : X.mg "max" = none) (ha : AX X W (e :: es) ds) (hg : Gl X "max" := by rfl) (he : starEach (e :: es) X.env = (false, eval e X.env) :: starEach es X.env := by rfl) (hpl : (backTo pos (starEach es X.env)).any (·.1) = false := by rfl) : EX X W (.Call (.Name "max" p) (e :: es) [] pos) (eL fMaxL ds) := e_cb (cr_max hc) opl_max hg hm bb_max ha (he := he) (hpl := hpl)
theorem e_minL (hc : X.calm = true) (hm : X.mg "min" = none) (ha : AX X W (e :: es) ds) (hg : Gl X "min" := by rfl) (he : starEach (e :: es) X.env = (false, eval e X.env) :: starEach es X.env := by rfl) (hpl : (backTo pos (starEach es X.env)).any (·.1) = false := by rfl) : EX X W (.Call (.Name "min" p) (e :: es) [] pos) (eL fMinL ds) := e_cb (cr_min hc) opl_min hg hm bb_min ha (he := he) (hpl := hpl)
theorem e_sum (hc : X.calm = true) (hm : X.mg "sum" = none) (ha : AX X W (e :: es) ds) (hg : Gl X "sum" := by rfl) (he : starEach (e :: es) X.env = (false, eval e X.env) :: starEach es X.env := by rfl) (hpl : (backTo pos (starEach es X.env)).any (·.1) = false := by rfl) : EX X W (.Call (.Name "sum" p) (e :: es) [] pos) (eL fSum ds) := e_cb (cr_sum hc) opl_sum hg hm bb_sum ha (he := he) (hpl := hpl)
theorem e_all (hc : X.calm = true) (hm : X.mg "all" = none) (ha : AX X W (e :: es) ds) (hg : Gl X "all" := by rfl) (he : starEach (e :: es) X.env = (false, eval e X.env) :: starEach es X.env := by rfl) (hpl : (backTo pos (starEach es X.env)).any (·.1) = false := by rfl) : EX X W (.Call (.Name "all" p) (e :: es) [] pos) (eL fAll ds) := e_cb (cr_all hc) opl_all hg hm bb_all ha (he := he) (hpl := hpl)
theorem e_any (hc : X.calm = true) (hm : X.mg "any" = none) (ha : AX X W (e :: es) ds) (hg : Gl X "any" := by rfl) (he : starEach (e :: es) X.env = (false, eval e X.env) :: starEach es X.env := by rfl) (hpl : (backTo pos (starEach es X.env)).any (·.1) = false := by rfl) : EX X W (.Call (.Name "any" p) (e :: es) [] pos) (eL fAny ds) := e_cb (cr_any hc) opl_any hg hm bb_any ha (he := he) (hpl := hpl)
theorem e_divmod (hm : X.mg "divmod" = none) (ha : AX X W (e :: es) ds) (hg : Gl X "divmod" := by rfl) (he : starEach (e :: es) X.env = (false, eval e X.env) :: starEach es X.env := by rfl) (hpl : (backTo pos (starEach es X.env)).any (·.1) = false := by rfl) : EX X W (.Call (.Name "divmod" p) (e :: es) [] pos) (eL fDivmod ds) := e_cb call_divmod opl_divmod hg hm bb_divmod ha (he := he) (hpl := hpl)
theorem e_isi (hm : X.mg "isinstance" = none) (ha : AX X W (e :: es) ds) (hg : Gl X "isinstance" := by rfl) (he : starEach (e :: es) X.env = (false, eval e X.env) :: starEach es X.env := by rfl) (hpl : (backTo pos (starEach es X.env)).any (·.1) = false := by rfl) : EX X W (.Call (.Name "isinstance" p) (e :: es) [] pos) (eL fIsi ds) := e_cb call_isi opl_isi hg hm bb_isinstance ha (he := he) (hpl := hpl)
theorem e_repr (hG : X.A.guards = some []) (hu : X.A.units + 64 < cLine) (hm : X.mg "repr" = none) (ha : AX X W (e :: es) ds) (hg : Gl X "repr" := by rfl) (he : starEach (e :: es) X.env = (false, eval e X.env) :: starEach es X.env := by rfl) (hpl : (backTo pos (starEach es X.env)).any (·.1) = false := by rfl) : EX X W (.Call (.Name "repr" p) (e :: es) [] pos) (eL fRepr ds) := e_cb (cr_repr hG hu) opl_repr hg hm bb_repr ha (he := he) (hpl := hpl)
theorem e_int (hm : X.mg "int" = none) (ha : AX X W (e :: es) ds) (hg : Gl X "int" := by rfl) (he : starEach (e :: es) X.env = (false, eval e X.env) :: starEach es X.env := by rfl) (hpl : (backTo pos (starEach es X.env)).any (·.1) = false := by rfl) : EX X W (.Call (.Name "int" p) (e :: es) [] pos) (eL fInt ds) := e_cty call_int1 opl_int hg hm bb_int ha (he := he) (hpl := hpl)
theorem e_listOf (hm : X.mg "list" = none) (ha : AX X W (e :: es) ds) (hg : Gl X "list" := by rfl) (he : starEach (e :: es) X.env = (false, eval e X.env) :: starEach es X.env := by rfl) (hpl : (backTo pos (starEach es X.env)).any (·.1) = false := by rfl) : EX X W (.Call (.Name "list" p) (e :: es) [] pos) (eL fListOf ds) := e_cty call_list_of opl_listOf hg hm bb_list ha (he := he) (hpl := hpl)
theorem e_tupleOf (hm : X.mg "tuple" = none) (ha : AX X W (e :: es) ds) (hg : Gl X "tuple" := by rfl) (he : starEach (e :: es) X.env = (false, eval e X.env) :: starEach es X.env := by rfl) (hpl : (backTo pos (starEach es X.env)).any (·.1) = false := by rfl) : EX X W (.Call (.Name "tuple" p) (e :: es) [] pos) (eL fTupleOf ds) := e_cty call_tuple_of opl_tupleOf hg hm bb_tuple ha (he := he) (hpl := hpl)
/-! ### texts compared -/
def fEqS (neg : Bool) : D → D → Option RV
  | .str x, .str y => some (.val (.bl (if neg = true then !decide (x = y) else decide (x = y))))
  | _, _ => none
theorem opp_eqS : OpP X.K rEq (fEqS false) := by
  intro B ow σd σ H dx dy rz x y Q S rx ry e q
  unfold fEqS at e
  split at e
  · rename_i x y
    cases e
    cases (show _ = V.str x from rx)
    cases (show _ = V.str y from ry)
    refine ⟨rfl, ?_⟩
    rw [show decide (V.str x = V.str y) = decide (x = y) by simp]
    exact q _ _ (post_same S rfl)
  · cases e
theorem opp_neS : OpP X.K rNe (fEqS true) := by
  intro B ow σd σ H dx dy rz x y Q S rx ry e q
  unfold fEqS at e
  split at e
  · rename_i x y
    cases e
    cases (show _ = V.str x from rx)
    cases (show _ = V.str y from ry)
    refine ⟨rfl, ?_⟩
    rw [show decide (V.str x = V.str y) = decide (x = y) by simp]
    exact q _ _ (post_same S rfl)
  · cases e
theorem e_eqS (ha : EX X W a da) (hb : EX X W b db) : EX X W (.Compare a [.Eq] [b] pos) (PL.e2 (fEqS false) da db) := ec op_eq opp_eqS ha hb (nomark _)
theorem e_neS (ha : EX X W a da) (hb : EX X W b db) : EX X W (.Compare a [.NotEq] [b] pos) (PL.e2 (fEqS true) da db) := ec op_ne opp_neS ha hb (nomark _)
theorem t_eqS (ha : EX X W a da) (hb : EX X W b db) : TX X W (.Compare a [.Eq] [b] pos) (tBl (PL.e2 (fEqS false) da db)) := tc op_eq opp_eqS ha hb (nomark _)
theorem t_neS (ha : EX X W a da) (hb : EX X W b db) : TX X W (.Compare a [.NotEq] [b] pos) (tBl (PL.e2 (fEqS true) da db)) := tc op_ne opp_neS ha hb (nomark _)
end
end PL
/-! PL13: x = [[..] for y in it]; x[0][0] = 1, and calls by keywords. -/
namespace PL
open PySem PySem.Spec PyProof.Rows L2
theorem kwB_of {K : PySem.W.Frag} {x qual : Str} {st : Stmt} {f : Addr} {fd : FuncData} {ps ks : List Str} {π : List Nat} (F : Fun K x qual st f fd)
    (h : ∀ (kV doc pm : Value) (an : Option Addr) (cdv ct : Value) (ws : List Value), ws.length = ks.length → bindArgs (PySem.W.fnOf x qual (defArgs st) (defBody st) (defScope st) .none kV doc pm an cdv ct) ⟨[], ks.zip ws⟩ = pure (ps.zip (perm Value.none π ws))) : KwB fd ps ks π := by
  obtain ⟨oc, od, kV, doc, pm, an, cdv, ct, osl, rfl, lk, hcd⟩ := F.ex
  exact h kV doc pm an cdv ct
/-- two statements that mean d together -/
def S2X (X : Cx) (W : WX) (s1 s2 : Stmt) (d : DS) : Prop := ∃ t1 t2 : TS, PS X s1 t1 ∧ PS X s2 t2 ∧ ∀ De σ H, rdS X.K X.mg W d De σ H → t1 { De with nx := fun σ' H' => t2 De σ' H' } σ H
theorem ss_cons2 {X : Cx} {W : WX} {s1 s2 : Stmt} {rest : List Stmt} {d1 d2 : DS} (h1 : S2X X W s1 s2 d1) (h2 : SsX X W rest d2) : SsX X W (s1 :: s2 :: rest) (dSeq d1 d2) := by
  obtain ⟨t1, t2, p1, p2, q⟩ := h1
  refine PSs.imp (pss_cons p1 (pss_cons p2 h2)) fun De σ H h => ?_
  exact q { De with nx := rdS X.K X.mg W d2 De } σ H (seq_go h)
/-- the turns: each makes a new list -/
def neGo (j : Nat) (de : DE) : List D → PSt → Res (List (List D) × PSt)
  | [], σ => .ok ([], σ)
  | d :: ds, σ => match de (σ.set j (.val d)) with
    | .ok (.own zs, σ2) => if noOwn σ2 [j] = true ∧ j < σ.length then (match neGo j de ds (wipeD σ2 [j]) with
      | .ok (r, σf) => .ok (zs :: r, σf)
      | _ => .bad) else .bad
    | _ => .bad
def dNest (i j : Nat) (di : DI) (de : DE) : DS := fun σd => (di σd).bind fun p => if noOwn p.2 [j] = true ∧ p.1.l.length ≤ most then (match neGo j de p.1.l (wipeD p.2 [j]) with
  | .ok ((_ :: zs) :: r, σf) => if noOwn σf [j] = true then (match (unwipe p.2 σf [j])[i]? with
    | some (.own true _) => .bad
    | none => .bad
    | _ => .ok (.next ((unwipe p.2 σf [j]).set i (.own false (.lst (.int 1 :: zs) :: r.map .lst))))) else .bad
  | _ => .bad) else .bad
section
variable {K : PySem.W.Frag} {mg : Str → Option Value} {B : Addr → Prop} {ow : Nat → Addr} {σd σw : PSt} {σ : L2.St} {H H' : Hp} {j : Nat} {de : DE} {d : D} {x : V}
theorem ne_step {ds : List D} {all : List (List D)} {σf : PSt} (S : StRel K B ow σw σ H) (r : Rep K H (NN B ow σw) d x) (nw : noOwn σw [j] = true) (e : neGo j de (d :: ds) σw = .ok (all, σf)) :
    ∃ zs σ2 rest, all = zs :: rest ∧ noOwn σ2 [j] = true ∧ neGo j de ds (wipeD σ2 [j]) = .ok (rest, σf) ∧ ∀ Q : VK, (∀ y H4, Post K B ow (σw.set j (.val d)) (σ.set j (some x)) H (RV.own zs) σ2 y H4 → Q y H4) → rd K mg W0 de (σ.set j (some x)) H Q := by
  unfold neGo at e
  cases e1 : de (σw.set j (.val d)) with
  | ok q =>
    obtain ⟨r1, σ2⟩ := q
    rw [e1] at e
    cases r1 with
    | val d => cases e
    | own zs =>
      dsimp only at e
      split at e
      · rename_i c
        cases e2 : neGo j de ds (wipeD σ2 [j]) with
        | ok q =>
          obtain ⟨rest, σf'⟩ := q
          rw [e2] at e
          cases e
          refine ⟨zs, σ2, rest, rfl, c.1, e2, fun Q h => ⟨B, ow, σw.set j (.val d), S.setv r c.2, ?_⟩⟩
          rw [e1]
          exact h
        | exc c x => rw [e2] at e; cases e
        | bad => rw [e2] at e; cases e
      · cases e
  | exc c x => rw [e1] at e; cases e
  | bad => rw [e1] at e; cases e
end
theorem ixN_at {n j : Nat} (hj : j < n) : ixN n (j : Int) = some j := by
  unfold ixN
  rw [if_pos (by omega), if_pos (by omega)]
  simp
theorem wipe_set1 {σ : L2.St} {j : Nat} {x : V} : L2.wipe ((L2.wipe σ [j]).set j (some x)) [j] = L2.wipe σ [j] := by
  show ((σ.set j none).set j (some x)).set j none = σ.set j none
  rw [List.set_set, List.set_set]
theorem s_nest_core {K : PySem.W.Frag} {mg : Str → Option Value} {W : WX} {B : Addr → Prop} {ow : Nat → Addr} {σd : PSt} {σ : L2.St} {H : Hp} {i j : Nat} {di : DI} {de : DE} {De : Ends}
    (S : StRel K B ow σd σ H) (g : GoS K mg W B ow σd H (dNest i j di de σd) De) :
    tLc (rd K mg W di) (gName j) tYes (rd K mg W0 de) [j] σ H fun v H1 => (σ.set i (some v))[i]? = some (some v) ∧ ∃ p xs u q us, v = .ref p ∧ SqL K H1 p xs ∧ atI xs 0 = some u ∧ u = .ref q ∧ H1 q = some (.lst us) ∧ ixN us.length 0 = some 0 ∧ De.nx (σ.set i (some v)) (upd H1 q (.lst (us.set 0 (.int 1)))) := by
  refine GoS.rdb S g fun p J H1 P g1 => ?_
  obtain ⟨fr, sb, S1, IO⟩ := P
  have IO : ItOk K (NN B ow p.2) H1 J p.1.l := IO
  split at g1
  · rename_i n0
    intro D hD
    obtain ⟨z0, zs, r, σf, e0, nf, s', e1, hs', g2⟩ : ∃ z0 zs r σf, neGo j de p.1.l (wipeD p.2 [j]) = .ok ((z0 :: zs) :: r, σf) ∧ noOwn σf [j] = true ∧ ∃ s', (unwipe p.2 σf [j])[i]? = some s' ∧ (∀ ys, s' ≠ .own true ys) ∧ GoS K mg W B ow σd H (.ok (.next ((unwipe p.2 σf [j]).set i (.own false (.lst (.int 1 :: zs) :: r.map .lst))))) De := by
      split at g1
      · rename_i z0 zs r σf e0
        split at g1
        · rename_i nf
          refine ⟨z0, zs, r, σf, e0, nf, ?_⟩
          split at g1
          · exact (show False from g1).elim
          · exact (show False from g1).elim
          · rename_i h1 h2
            cases q : (unwipe p.2 σf [j])[i]? with
            | none => exact absurd q h2
            | some s' => exact ⟨s', rfl, fun ys z => h1 ys (by rw [q, z]), g1⟩
        · exact (show False from g1).elim
      · exact (show False from g1).elim
    have hnb : ∀ {b : Nat} {ys : List PL.D}, True := fun {b ys} => trivial
    refine ⟨fun i' m H => m = p.1.l.length - i' ∧ i' ≤ p.1.l.length ∧ ∃ σw, noOwn σw [j] = true ∧ SubO p.2 σw ∧ Fr0 ow p.2 H1 H ∧
        ((i' = 0 ∧ H D = some (.lst []) ∧ StRel K (Bp B D) ow σw (L2.wipe σ [j]) H ∧ neGo j de p.1.l σw = .ok ((z0 :: zs) :: r, σf)) ∨
          ∃ q us av rs rem, H D = some (.lst (.ref q :: av)) ∧ H q = some (.lst us) ∧ H1 q = none ∧ ¬ Bp B D q ∧ StRel K (Bp (Bp B D) q) ow σw (L2.wipe σ [j]) H ∧ RepL K H (NN (Bp (Bp B D) q) ow σw) (z0 :: zs) us ∧
            RepL K H (NN (Bp (Bp B D) q) ow σw) (rs.map .lst) av ∧ rs.length + 1 = i' ∧ neGo j de (p.1.l.drop i') σw = .ok (rem, σf) ∧ r = rs ++ rem),
      ⟨p.1.l.length, rfl, Nat.zero_le _, wipeD p.2 [j], wiped_no _ _, fun i b xs e => ?_, Fr0.new hD, .inl ⟨rfl, upd_same, (S1.shut hD).wipe, e0⟩⟩, ?_⟩
    · rcases wipeD_get e with ⟨_, z⟩ | ⟨_, z⟩
      · cases z
      · exact ⟨xs, z⟩
    · rintro i' m H ⟨rfl, hi, σw, nw, sw, fw, hcase⟩
      have ext : ∀ a o, H1 a = some o → ¬ NN B ow p.2 a → H a = some o := fun a o e n => fw.at e fun z => n (.inr z)
      by_cases hlt : i' < p.1.l.length
      · refine .inr ⟨IO.go i' H ext hlt, fun H' => i' + 1 ≤ p.1.l.length ∧ ∃ σw, noOwn σw [j] = true ∧ SubO p.2 σw ∧ Fr0 ow p.2 H1 H' ∧
          ∃ q us av rs rem, H' D = some (.lst (.ref q :: av)) ∧ H' q = some (.lst us) ∧ H1 q = none ∧ ¬ Bp B D q ∧ StRel K (Bp (Bp B D) q) ow σw (L2.wipe σ [j]) H' ∧ RepL K H' (NN (Bp (Bp B D) q) ow σw) (z0 :: zs) us ∧
            RepL K H' (NN (Bp (Bp B D) q) ow σw) (rs.map .lst) av ∧ rs.length + 1 = i' + 1 ∧ neGo j de (p.1.l.drop (i' + 1)) σw = .ok (rem, σf) ∧ r = rs ++ rem, fun H' h => ⟨p.1.l.length - (i' + 1), by omega, rfl, h.1, h.2.choose, h.2.choose_spec.1, h.2.choose_spec.2.1, h.2.choose_spec.2.2.1, .inr h.2.choose_spec.2.2.2⟩, fun x H' y => ?_⟩
        have ed : p.1.l.drop i' = p.1.l[i'] :: p.1.l.drop (i' + 1) := List.drop_eq_getElem_cons hlt
        rcases hcase with ⟨rfl, hDv, Sw, en⟩ | ⟨q, us, av, rs, rem, hDv, hq, hq1, nq, Sw, ru, ra, hrs, en, er⟩
        · -- the first turn
          have trk : ∀ a, NN (Bp B D) ow σw a → (NN B ow p.2 a ∨ H1 a = none) ∧ ∃ o, H a = some o := fun a z => by
            rcases z with z | z
            · refine ⟨?_, Sw.bt a z⟩
              rcases z with z | z
              · exact .inl (.inl z)
              · rw [z]; exact .inr hD
            · refine ⟨.inl (.inr (sw.ownA z)), ?_⟩
              obtain ⟨vs', q⟩ := Sw.there z
              exact ⟨_, q⟩
          obtain ⟨gr, d, hd, rx⟩ := IO.yld 0 H H' x (NN (Bp B D) ow σw) ext trk hlt y
          have hd' : p.1.l = d :: p.1.l.drop 1 := by
            rw [List.drop_zero] at ed
            rw [List.getElem?_eq_getElem hlt] at hd
            rw [← Option.some.inj hd]
            exact ed
          have Sw' := Sw.grow gr
          rw [hd'] at en
          obtain ⟨zs2, σ2, rest, eall, n2, en2, run⟩ := ne_step (mg := mg) Sw' rx nw en
          cases eall
          refine ⟨wipe_set1, ?_⟩
          unfold tYes
          refine Eq.mpr (if_pos rfl) ?_
          refine run _ fun y H4 PE => ?_
          obtain ⟨f4, s4, P4⟩ := PE
          obtain ⟨q, us, rfl, k0, kb, k1, S4, ru⟩ := (show finRV K (Bp B D) ow ((L2.wipe σ [j]).set j (some x)) H' (.own (z0 :: zs)) σ2 y H4 from P4)
          have hD4 : H4 D = some (.lst []) := f4.at (gr _ _ hDv) fun ⟨jj, b, xs, e, z⟩ => by
            rcases set_get e with ⟨_, w⟩ | ⟨_, w⟩
            · cases w
            · exact Sw.nb jj b xs w (.inr z)
          have nqD : q ≠ D := fun z => kb (.inr z)
          have sub2 : SubO σw σ2 := fun jj b xs e => by
            obtain ⟨ys, e'⟩ := s4 jj b xs e
            rcases set_get e' with ⟨_, w⟩ | ⟨_, w⟩
            · cases w
            · exact ⟨ys, w⟩
          have own2 : ∀ {a}, OwnA ow (σw.set j (.val d)) a → OwnA ow σw a := fun {a} ⟨jj, b, xs, e, z⟩ => by
            rcases set_get e with ⟨_, w⟩ | ⟨_, w⟩
            · cases w
            · exact ⟨jj, b, xs, w, z⟩
          have hq1 : H1 q = none := by
            cases hz : H1 q with
            | none => rfl
            | some o =>
              obtain ⟨⟨o', ho⟩, _⟩ := fw q o hz
              rw [gr _ _ ho] at k0
              cases k0
          refine ⟨[], hD4, by rw [sizeLine_eq]; decide, hlt, wipeD σ2 [j], wiped_no _ _, fun jj b xs e => ?_, fun a o e => ?_, q, us, [], [], r, upd_same, ?_, hq1, kb, ?_, ?_, rfl, rfl, en2, rfl⟩
          · rcases wipeD_get e with ⟨_, z⟩ | ⟨_, z⟩
            · cases z
            · exact (sw.trans sub2) jj b xs z
          · have nD : a ≠ D := ne_of_none e hD
            obtain ⟨⟨o1, h1⟩, h2⟩ := fw a o e
            rw [upd_ne nD]
            refine ⟨(f4 a o1 (gr _ _ h1)).1, fun n => (f4 a o (gr _ _ (h2 n))).2 fun z => n (sw.ownA (own2 z))⟩
          · rw [upd_ne nqD]
            exact k1
          · have S5 := (S4.upB (p := D) (o := .lst ([] ++ [.ref q])) (.inl (.inr rfl))).wipe (vs := [j])
            rw [wipe_set1] at S5
            exact S5
          · refine RepL.mono (fun a o e n => ?_) (fun a z => z.elim .inl fun z => .inr (wipe_ownA z)) _ _ ru
            rw [upd_ne fun z => n (.inl (.inl (.inr z)))]
            exact e
        · -- a later turn
          have trk : ∀ a, NN (Bp (Bp B D) q) ow σw a → (NN B ow p.2 a ∨ H1 a = none) ∧ ∃ o, H a = some o := fun a z => by
            rcases z with z | z
            · refine ⟨?_, Sw.bt a z⟩
              rcases z with (z | z) | z
              · exact .inl (.inl z)
              · rw [z]; exact .inr hD
              · rw [z]; exact .inr hq1
            · refine ⟨.inl (.inr (sw.ownA z)), ?_⟩
              obtain ⟨vs', q⟩ := Sw.there z
              exact ⟨_, q⟩
          obtain ⟨gr, d, hd, rx⟩ := IO.yld i' H H' x (NN (Bp (Bp B D) q) ow σw) ext trk hlt y
          have hd' : p.1.l.drop i' = d :: p.1.l.drop (i' + 1) := by
            rw [List.getElem?_eq_getElem hlt] at hd
            rw [← Option.some.inj hd]
            exact ed
          have Sw' := Sw.grow gr
          rw [hd'] at en
          obtain ⟨zs2, σ2, rest, rfl, n2, en2, run⟩ := ne_step (mg := mg) Sw' rx nw en
          refine ⟨wipe_set1, ?_⟩
          unfold tYes
          refine Eq.mpr (if_pos rfl) ?_
          refine run _ fun y H4 PE => ?_
          have S4 := PE.st
          have hRep : Rep K H4 (NN (Bp (Bp B D) q) ow σ2) (.lst zs2) y := PE.rep
          obtain ⟨f4, s4, P4⟩ := PE
          have own2 : ∀ {a}, OwnA ow (σw.set j (.val d)) a → OwnA ow σw a := fun {a} ⟨jj, b, xs, e, z⟩ => by
            rcases set_get e with ⟨_, w⟩ | ⟨_, w⟩
            · cases w
            · exact ⟨jj, b, xs, w, z⟩
          have sub2 : SubO σw σ2 := fun jj b xs e => by
            obtain ⟨ys, e'⟩ := s4 jj b xs e
            rcases set_get e' with ⟨_, w⟩ | ⟨_, w⟩
            · cases w
            · exact ⟨ys, w⟩
          have keep : ∀ {a o}, H a = some o → ¬ OwnA ow σw a → H4 a = some o := fun {a o} e n => f4.at (gr _ _ e) fun z => n (own2 z)
          have no : ∀ {a}, Bp (Bp B D) q a → ¬ OwnA ow σw a := fun {a} hb ⟨jj, b, xs, e, z⟩ => Sw.nb jj b xs e (by rw [z]; exact hb)
          have hD4 : H4 D = some (.lst (.ref q :: av)) := keep hDv (no (.inl (.inr rfl)))
          have hq4 : H4 q = some (.lst us) := keep hq (no (.inr rfl))
          have nqD : q ≠ D := fun z => nq (.inr z)
          have lift : ∀ {xs : List PL.D} {ys : List V}, RepL K H (NN (Bp (Bp B D) q) ow σw) xs ys → RepL K (upd H4 D (.lst (.ref q :: av ++ [y]))) (NN (Bp (Bp B D) q) ow (wipeD σ2 [j])) xs ys := fun {xs ys} h =>
            RepL.mono (fun a o e n => by rw [upd_ne fun z => n (.inl (.inl (.inr z)))]; exact keep e fun z => n (.inr z)) (fun a z => z.elim .inl fun z => .inr (sub2.ownA (wipe_ownA z))) _ _ h
          have hlen : (.ref q :: av : List V).length = i' := by rw [List.length_cons, ra.length, List.length_map]; exact hrs
          refine ⟨.ref q :: av, hD4, by rw [hlen]; exact most_lt (Nat.lt_of_lt_of_le hlt n0.2), hlt, wipeD σ2 [j], wiped_no _ _, fun jj b xs e => ?_, fun a o e => ?_, q, us, av ++ [y], rs ++ [zs2], rest, upd_same, ?_, hq1, nq, ?_, lift ru, ?_, ?_, en2, ?_⟩
          · rcases wipeD_get e with ⟨_, z⟩ | ⟨_, z⟩
            · cases z
            · exact (sw.trans sub2) jj b xs z
          · have nD : a ≠ D := ne_of_none e hD
            obtain ⟨⟨o1, h1⟩, h2⟩ := fw a o e
            rw [upd_ne nD]
            refine ⟨(f4 a o1 (gr _ _ h1)).1, fun n => (f4 a o (gr _ _ (h2 n))).2 fun z => n (sw.ownA (own2 z))⟩
          · rw [upd_ne nqD]
            exact hq4
          · have S5 := (S4.upB (p := D) (o := .lst (.ref q :: av ++ [y])) (.inl (.inr rfl))).wipe (vs := [j])
            rw [wipe_set1] at S5
            exact S5
          · rw [List.map_append]
            refine (lift ra).append ⟨y, [], rfl, ?_, rfl⟩
            refine hRep.mono (fun a o e n => ?_) (fun a z => z.elim .inl fun z => .inr (wipe_ownA z))
            rw [upd_ne fun z => n (.inl (.inl (.inr z)))]
            exact e
          · rw [List.length_append, List.length_singleton, hrs]
          · rw [er, List.append_assoc]
            rfl
      · have ei : i' = p.1.l.length := by omega
        subst ei
        rcases hcase with ⟨z, hDv, Sw, en⟩ | ⟨q, us, av, rs, rem, hDv, hq, hq1, nq, Sw, ru, ra, hrs, en, er⟩
        · rw [List.eq_nil_of_length_eq_zero z] at en
          cases en
        · rw [List.drop_length] at en
          cases en
          rw [List.append_nil] at er
          subst er
          refine .inl ⟨IO.stop _ H ext (Nat.le_refl _), ?_⟩
          have nqD : q ≠ D := fun z => nq (.inr z)
          have hi' : i < σ.length := by
            have h1 := lt_of_get e1
            rw [unwipe_len] at h1
            have h2 := Sw.len
            rw [wipe_length] at h2
            omega
          refine ⟨List.getElem?_set_self hi', D, .ref q :: av, .ref q, q, us, rfl, SqL.of hDv, atI_nat (j := 0) rfl, rfl, hq, by rw [ru.length]; exact ixN_at (j := 0) (by rw [List.length_cons]; omega), ?_⟩
          -- the end
          obtain ⟨u0, ut, rfl, r0, rt⟩ := ru
          have S2 : StRel K (Bp B D) ow σf (L2.wipe σ [j]) (upd H q (.lst (.int 1 :: ut))) := (Sw.upB (.inr rfl)).weak fun a z => .inl z
          have nqO : ¬ OwnA ow σf q := fun ⟨jj, b, xs, e, z⟩ => Sw.nb jj b xs e (.inr z)
          have lift : ∀ {xs : List PL.D} {ys : List V}, RepL K H (NN (Bp (Bp B D) q) ow σf) xs ys → RepL K (upd H q (.lst (.int 1 :: ut))) (NN (Bp B D) ow σf) xs ys := fun {xs ys} h =>
            RepL.mono (fun a o e n => by rw [upd_ne fun z => n (.inl (.inr z))]; exact e) (fun a z => z.elim (fun z => .inl (.inl z)) .inr) _ _ h
          have f2 : Fr0 ow p.2 H1 (upd H q (.lst (.int 1 :: ut))) := fun a o e => by
            rw [upd_ne (ne_of_none e hq1)]
            exact fw a o e
          have hD2 : (upd H q (.lst (.int 1 :: ut))) D = some (.lst (.ref q :: av)) := by rw [upd_ne (Ne.symm nqD)]; exact hDv
          obtain ⟨SU, sU, gU⟩ := StRel.unwipe S1 S2 f2 sw n0.1 nw hD
          have rr : RepL K (upd H q (.lst (.int 1 :: ut))) (NN (Bp B D) ow (unwipe p.2 σf [j])) (.lst (.int 1 :: zs) :: r.map .lst) (.ref q :: av) := by
            refine RepL.mono (fun _ _ h _ => h) gU _ _ (show RepL K _ (NN (Bp B D) ow σf) _ _ from ⟨.ref q, av, rfl, ⟨q, .int 1 :: ut, rfl, fun z => z.elim nq nqO, upd_same, .int 1, ut, rfl, rfl, lift rt⟩, lift ra⟩)
          have SF := SU.setO (S1.nB hD) hD2 rr (lt_of_get e1)
          refine g2 _ _ _ ⟨fr.trans sb f2, fun k b ys e' => ?_⟩ SF
          rcases set_get e' with ⟨z, w⟩ | ⟨n, z⟩
          · cases w
            refine .inr ⟨rfl, ?_⟩
            rw [if_pos z.symm]
            exact fr.free hD
          · obtain ⟨xs', e2⟩ := (sb.trans sU) k b ys z
            exact .inl ⟨k, xs', e2, by rw [if_neg (Ne.symm n)], fun _ => rfl⟩
  · exact (show False from g1).elim
theorem tLc_imp {K : PySem.W.Frag} {mg : Str → Option Value} {W : WX} {di : DI} {g : TG} {tt : TT} {te : TE} {vs : List Nat} {σ : L2.St} {H : Hp} {Q Q' : VK} (h : tLc (rd K mg W di) g tt te vs σ H Q) (q : ∀ v H, Q v H → Q' v H) : tLc (rd K mg W di) g tt te vs σ H Q' := by
  obtain ⟨B, ow, σd, S, go⟩ := h
  refine ⟨B, ow, σd, S, go.imp fun J H1 h D hD => ?_⟩
  obtain ⟨W, h1, h2⟩ := h D hD
  exact ⟨W, h1, fun i m H hW => (h2 i m H hW).imp (fun ⟨a, b⟩ => ⟨a, q _ _ b⟩) id⟩
section
variable {X : Cx} {W : WX} {elt tg iter : Expr} {scope : Scope} {own : List (Str × Nat)} {pos spos xp p1 p2 p3 p4 p5 ps2 : Pos} {di : DI} {de : DE} {i j : Nat} {x : Str} {j1 j2 j3 : Nat}
theorem ss_nest (hN : X.N.Nodup) (hi : X.N[i]? = some x) (hx : Loc X.env.scope x) (hc : X.calm = true) (hit : IX X W tg iter di) (ok : BlkOk X.N X.env.scope scope own)
    (hg : ∀ (s : Shared) (H : Hp) (C : Addr) (cl : List (Str × Addr)) (fp : List Addr), PG (X.blk s H scope (compEnvC scope cl C X.env) fp) tg (gName j))
    (he : ∀ (s : Shared) (H : Hp) (C : Addr) (cl : List (Str × Addr)) (fp : List Addr), EX (X.blk s H scope (compEnvC scope cl C X.env) fp) W0 elt de)
    (hv : PE X (.Name x xp) (tVar i)) (hown : own.map (·.2) = [j] := by rfl) (hs : ∀ x, foldedSetIterable iter X.env x = pure x := by intro _; rfl)
    (hsw : swapsWith (.ListComp elt [⟨tg, iter, [], 0⟩] scope pos) (some (.Name x p1)) spos.line X.env = pure false := by rfl) (hf : X.fn x = true ∨ X.env.scope.names.lookup x = some .local := by first | exact .inl rfl | exact .inr rfl | assumption)
    (hix : PlainIx (.Constant (.int 0) j1 p2) := by exact fun _ _ => rfl)
    (ha : ∀ v, assign (.Subscript (.Subscript (.Name x xp) (.Constant (.int 0) j1 p2) p3) (.Constant (.int 0) j2 p4) p5) X.env v = (do
      let ov ← holding [v] (eval (.Subscript (.Name x xp) (.Constant (.int 0) j1 p2) p3) X.env)
      let iv ← holding [v, ov] (eval (.Constant (.int 0) j2 p4) X.env)
      standAt p5
      holding [v, ov, iv] (setItem ov iv v)
      release [v, ov, iv] []) := by intro _; rfl)
    (hs2 : swapsWithSole [.Subscript (.Subscript (.Name x xp) (.Constant (.int 0) j1 p2) p3) (.Constant (.int 0) j2 p4) p5] (.Constant (.int 1) j3 ps2) spos.line X.env = pure false := by rfl)
    (hw2 : swappedStores [.Subscript (.Subscript (.Name x xp) (.Constant (.int 0) j1 p2) p3) (.Constant (.int 0) j2 p4) p5] (.Constant (.int 1) j3 ps2) X.env = pure none := by rfl)
    (h12 : (assignEach [.Subscript (.Subscript (.Name x xp) (.Constant (.int 0) j1 p2) p3) (.Constant (.int 0) j2 p4) p5] X.env).map (·.2) = [assign (.Subscript (.Subscript (.Name x xp) (.Constant (.int 0) j1 p2) p3) (.Constant (.int 0) j2 p4) p5) X.env] := by rfl) {spos2 : Pos} (hl : spos2.line = spos2.line := by rfl)
    (hs3 : swapsWithSole [.Subscript (.Subscript (.Name x xp) (.Constant (.int 0) j1 p2) p3) (.Constant (.int 0) j2 p4) p5] (.Constant (.int 1) j3 ps2) spos2.line X.env = pure false := by rfl) :
    S2X X W (.Assign [.Name x p1] (.ListComp elt [⟨tg, iter, [], 0⟩] scope pos) spos) (.Assign [.Subscript (.Subscript (.Name x xp) (.Constant (.int 0) j1 p2) p3) (.Constant (.int 0) j2 p4) p5] (.Constant (.int 1) j3 ps2) spos2) (dNest i j di de) := by
  refine ⟨_, _, ps_set hN hi hx (pe_lc (g := gName j) (tt := tYes) (te := rd X.K X.mg W0 de) hc hN hit ok hg (fun _ _ _ _ _ => pts_nil) he hs) hsw hf, ps_asg pe_int (pg_sub (pe_ix ix_list hv pe_int hix) pe_int set_list ha) hs3 hw2 h12, ?_⟩
  rintro De σ H ⟨B, ow, σd, S, g⟩
  have h := s_nest_core S g
  rw [← hown] at h
  unfold tAsg
  refine PL.tLc_imp h fun v H1 hh => ?_
  obtain ⟨e, p, xs, u, q, us, rfl, h1, h2, rfl, h3, h4, h5⟩ := hh
  exact ⟨.ref p, e, p, xs, 0, .ref q, rfl, rfl, h1, h2, q, us, 0, 0, rfl, rfl, h3, h4, h5⟩
end
end PL
/-! PL14: the denotations evaluated by simp. -/
namespace PL
open PySem PySem.Spec PyProof.Rows L2
theorem bind_eq {α β : Type} {o : Res α} {f g : α → Res β} (h : ∀ a, f a = g a) : o.bind f = o.bind g := by rw [show f = g from funext h]
/-- a partial value, then a pair -/
def okP {α : Type} (s : PSt) (o : Option α) : Res (α × PSt) := match o with
  | some z => .ok (z, s)
  | none => .bad
@[simp] theorem okP_some {α : Type} {s : PSt} {z : α} : okP s (some z) = .ok (z, s) := nrfl rfl
def nextK (o : Res PSt) : Res Out := match o with
  | .ok s => .ok (.next s)
  | _ => .bad
@[simp] theorem nextK_ok {s : PSt} : nextK (.ok s) = .ok (.next s) := nrfl rfl
section
variable {σ s : PSt} {d1 d2 db : DS} {de da dc dk de2 : DE} {dA : DA} {dt du : DT} {di : DI} {gd : DG} {gs : DGs} {i n : Nat} {d : D} {r : RV} {ds xs : List D} {f g : D → D → Option RV} {fL : List D → Option RV} {F : Fd} {U : Fu}
def seqK (d2 : DS) (o : Out) : Res Out := match o with
  | .next s => d2 s
  | o => .ok o
@[simp] theorem seqK_next : seqK d2 (.next σ) = d2 σ := nrfl rfl
@[simp] theorem seqK_ret : seqK d2 (.ret r σ) = .ok (.ret r σ) := nrfl rfl
@[simp] theorem seqK_brk : seqK d2 (.brk σ) = .ok (.brk σ) := nrfl rfl
@[simp] theorem seqK_cont : seqK d2 (.cont σ) = .ok (.cont σ) := nrfl rfl
@[simp] theorem ap_seq : dSeq d1 d2 σ = (d1 σ).bind (seqK d2) := nrfl rfl
@[simp] theorem ap_nil : dNil σ = .ok (.next σ) := nrfl rfl
def setK (i : Nat) (d : D) (s : PSt) (o : Option SV) : Res Out := match o with
  | some (.own true _) => .bad
  | none => .bad
  | _ => .ok (.next (s.set i (.val d)))
@[simp] theorem setK_un : setK i d s (some .un) = .ok (.next (s.set i (.val d))) := nrfl rfl
@[simp] theorem setK_val {d' : D} : setK i d s (some (.val d')) = .ok (.next (s.set i (.val d))) := nrfl rfl
@[simp] theorem setK_own : setK i d s (some (.own false xs)) = .ok (.next (s.set i (.val d))) := nrfl rfl
def setC (i : Nat) (p : RV × PSt) : Res Out := setK i p.1.d p.2 (p.2[i]?)
@[simp] theorem setC_p : setC i (r, s) = setK i r.d s (s[i]?) := nrfl rfl
@[simp] theorem ap_set : dSet i de σ = (de σ).bind (setC i) := nrfl rfl
def setOK (i : Nat) (r : RV) (s : PSt) (o : Option SV) : Res Out := match r, o with
  | _, some (.own true _) => .bad
  | _, none => .bad
  | .own xs, _ => .ok (.next (s.set i (.own false xs)))
  | _, _ => .bad
@[simp] theorem setOK_un : setOK i (.own xs) s (some .un) = .ok (.next (s.set i (.own false xs))) := nrfl rfl
@[simp] theorem setOK_val {d' : D} : setOK i (.own xs) s (some (.val d')) = .ok (.next (s.set i (.own false xs))) := nrfl rfl
@[simp] theorem setOK_own {ys : List D} : setOK i (.own xs) s (some (.own false ys)) = .ok (.next (s.set i (.own false xs))) := nrfl rfl
def setOC (i : Nat) (p : RV × PSt) : Res Out := setOK i p.1 p.2 (p.2[i]?)
@[simp] theorem setOC_p : setOC i (r, s) = setOK i r s (s[i]?) := nrfl rfl
@[simp] theorem ap_setO : dSetO i de σ = (de σ).bind (setOC i) := nrfl rfl
def asgC (gd : DG) (p : RV × PSt) : Res Out := nextK (gd p.1.d p.2)
@[simp] theorem asgC_p : asgC gd (r, s) = nextK (gd r.d s) := nrfl rfl
@[simp] theorem ap_asg : dAsg de gd σ = (de σ).bind (asgC gd) := by
  unfold dAsg
  exact bind_eq fun p => by
    unfold asgC nextK
    cases gd p.1.d p.2 <;> rfl
def ifC (d1 d2 : DS) (p : Bool × PSt) : Res Out := if p.1 = true then d1 p.2 else d2 p.2
@[simp] theorem ifC_t : ifC d1 d2 (true, s) = d1 s := nrfl rfl
@[simp] theorem ifC_f : ifC d1 d2 (false, s) = d2 s := nrfl rfl
@[simp] theorem ap_if : dIf dt d1 d2 σ = (dt σ).bind (ifC d1 d2) := nrfl rfl
def retC (p : RV × PSt) : Res Out := .ok (.ret p.1 p.2)
@[simp] theorem retC_p : retC (r, s) = .ok (.ret r s) := nrfl rfl
@[simp] theorem ap_ret : dRet de σ = (de σ).bind retC := nrfl rfl
@[simp] theorem ap_retN : dRetN σ = .ok (.ret (.val .non) σ) := nrfl rfl
def exprC (p : RV × PSt) : Res Out := .ok (.next p.2)
@[simp] theorem exprC_p : exprC (r, s) = .ok (.next s) := nrfl rfl
@[simp] theorem ap_expr : dExpr de σ = (de σ).bind exprC := nrfl rfl
@[simp] theorem ap_never : dNever σ = .bad := nrfl rfl
def forC (gd : DG) (db : DS) (p : Itms × PSt) : Res Out := forGo gd db p.1.l p.2
@[simp] theorem forC_p {l : List D} : forC gd db (⟨l⟩, s) = forGo gd db l s := nrfl rfl
@[simp] theorem ap_for : dFor di gd db σ = (di σ).bind (forC gd db) := nrfl rfl
@[simp] theorem ap_c : dC d σ = .ok (.val d, σ) := nrfl rfl
def varK (i : Nat) (σ : PSt) (o : Option SV) : Res (RV × PSt) := match o with
  | some (.val d) => .ok (.val d, σ)
  | some (.own false xs) => .ok (.val (.lst xs), σ.set i (.val (.lst xs)))
  | _ => .bad
@[simp] theorem varK_val : varK i σ (some (.val d)) = .ok (.val d, σ) := nrfl rfl
@[simp] theorem varK_own : varK i σ (some (.own false xs)) = .ok (.val (.lst xs), σ.set i (.val (.lst xs))) := nrfl rfl
@[simp] theorem ap_var : dVar i σ = varK i σ (σ[i]?) := nrfl rfl
def e2B (f : D → D → Option RV) (d : D) (p : RV × PSt) : Res (RV × PSt) := okP p.2 (f d p.1.d)
@[simp] theorem e2B_p : e2B f d (r, s) = okP s (f d r.d) := nrfl rfl
def e2A (f : D → D → Option RV) (dc : DE) (p : RV × PSt) : Res (RV × PSt) := (dc p.2).bind (e2B f p.1.d)
@[simp] theorem e2A_p : e2A f dc (r, s) = (dc s).bind (e2B f r.d) := nrfl rfl
@[simp] theorem ap_e2 : PL.e2 f da dc σ = (da σ).bind (e2A f dc) := by
  unfold PL.e2 e2A
  exact bind_eq fun p => bind_eq fun q => by
    unfold e2B okP
    cases f p.1.d q.1.d <;> rfl
def e1A (f : D → Option RV) (p : RV × PSt) : Res (RV × PSt) := okP p.2 (f p.1.d)
@[simp] theorem e1A_p {f : D → Option RV} : e1A f (r, s) = okP s (f r.d) := nrfl rfl
@[simp] theorem ap_e1 {f : D → Option RV} : PL.e1 f da σ = (da σ).bind (e1A f) := by
  unfold PL.e1
  exact bind_eq fun p => by
    unfold e1A okP
    cases f p.1.d <;> rfl
def eLA (f : List D → Option RV) (p : List D × PSt) : Res (RV × PSt) := okP p.2 (f p.1)
@[simp] theorem eLA_p : eLA fL (ds, s) = okP s (fL ds) := nrfl rfl
@[simp] theorem ap_eL : eL fL dA σ = (dA σ).bind (eLA fL) := by
  unfold eL
  exact bind_eq fun p => by
    unfold eLA okP
    cases fL p.1 <;> rfl
@[simp] theorem ap_aNil : aNil σ = .ok ([], σ) := nrfl rfl
def consB (d : D) (p : List D × PSt) : Res (List D × PSt) := .ok (d :: p.1, p.2)
@[simp] theorem consB_p : consB d (ds, s) = .ok (d :: ds, s) := nrfl rfl
def consA (dA : DA) (p : RV × PSt) : Res (List D × PSt) := (dA p.2).bind (consB p.1.d)
@[simp] theorem consA_p : consA dA (r, s) = (dA s).bind (consB r.d) := nrfl rfl
@[simp] theorem ap_aCons : aCons de dA σ = (de σ).bind (consA dA) := nrfl rfl
@[simp] theorem RVd_val : (RV.val d).d = d := nrfl rfl
@[simp] theorem RVd_own : (RV.own xs).d = .lst xs := nrfl rfl
def tupC (p : List D × PSt) : Res (RV × PSt) := if p.1.length ≤ most then .ok (.val (.tup p.1), p.2) else .bad
@[simp] theorem tupC_p : tupC (ds, s) = if ds.length ≤ most then .ok (.val (.tup ds), s) else .bad := nrfl rfl
@[simp] theorem ap_tup : eTup dA σ = (dA σ).bind tupC := nrfl rfl
def lstC (p : List D × PSt) : Res (RV × PSt) := if p.1.length ≤ most then .ok (.own p.1, p.2) else .bad
@[simp] theorem lstC_p : lstC (ds, s) = if ds.length ≤ most then .ok (.own ds, s) else .bad := nrfl rfl
@[simp] theorem ap_lst : eLst dA σ = (dA σ).bind lstC := nrfl rfl
def tOfC (p : RV × PSt) : Res (Bool × PSt) := okP p.2 (truth p.1.d)
@[simp] theorem tOfC_p : tOfC (r, s) = okP s (truth r.d) := nrfl rfl
@[simp] theorem ap_tOf : tOf da σ = (da σ).bind tOfC := by
  unfold tOf
  exact bind_eq fun p => by
    unfold tOfC okP
    cases truth p.1.d <;> rfl
def blK (p : RV × PSt) : Res (Bool × PSt) := match p.1.d with
  | .bl b => .ok (b, p.2)
  | _ => .bad
@[simp] theorem blK_bl {b : Bool} : blK (.val (.bl b), σ) = .ok (b, σ) := nrfl rfl
@[simp] theorem ap_tBl : tBl da σ = (da σ).bind blK := by
  unfold tBl
  exact bind_eq fun p => by
    unfold blK
    cases p.1.d <;> rfl
def and2C (du : DT) (p : Bool × PSt) : Res (Bool × PSt) := if p.1 = true then du p.2 else .ok (false, p.2)
@[simp] theorem and2C_t : and2C du (true, s) = du s := nrfl rfl
@[simp] theorem and2C_f : and2C du (false, s) = .ok (false, s) := nrfl rfl
@[simp] theorem ap_and2 : tAnd2 dt du σ = (dt σ).bind (and2C du) := nrfl rfl
def or2C (du : DT) (p : Bool × PSt) : Res (Bool × PSt) := if p.1 = true then .ok (true, p.2) else du p.2
@[simp] theorem or2C_t : or2C du (true, s) = .ok (true, s) := nrfl rfl
@[simp] theorem or2C_f : or2C du (false, s) = du s := nrfl rfl
@[simp] theorem ap_or2 : tOr2 dt du σ = (dt σ).bind (or2C du) := nrfl rfl
def not1C (p : Bool × PSt) : Res (Bool × PSt) := .ok (!p.1, p.2)
@[simp] theorem not1C_p {b : Bool} : not1C (b, s) = .ok (!b, s) := nrfl rfl
@[simp] theorem ap_not1 : tNot1 dt σ = (dt σ).bind not1C := nrfl rfl
def eifC (da dc : DE) (p : Bool × PSt) : Res (RV × PSt) := if p.1 = true then da p.2 else dc p.2
@[simp] theorem eifC_t : eifC da dc (true, s) = da s := nrfl rfl
@[simp] theorem eifC_f : eifC da dc (false, s) = dc s := nrfl rfl
@[simp] theorem ap_eif : eIf dt da dc σ = (dt σ).bind (eifC da dc) := nrfl rfl
def negF (d : D) : Option RV := match d with
  | .int i => some (.val (.int (-i)))
  | _ => none
@[simp] theorem negF_int {k : Int} : negF (.int k) = some (.val (.int (-k))) := nrfl rfl
@[simp] theorem ap_eNeg : eNeg da σ = (da σ).bind (e1A negF) := by
  unfold eNeg
  rw [ap_e1]
  rfl
def retS (s : PSt) (r : RV) : Res (RV × PSt) := .ok (r, s)
@[simp] theorem retS_p : retS s r = .ok (r, s) := nrfl rfl
def callC (n : Nat) (F : Fd) (p : List D × PSt) : Res (RV × PSt) := if p.1.length = n then (F p.1).bind (retS p.2) else .bad
@[simp] theorem callC_p : callC n F (ds, s) = if ds.length = n then (F ds).bind (retS s) else .bad := nrfl rfl
@[simp] theorem ap_call : eCall n F dA σ = (dA σ).bind (callC n F) := nrfl rfl
def callKC (n : Nat) (F : Fd) (π : List Nat) (p : List D × PSt) : Res (RV × PSt) := if p.1.length = n then (F (perm D.non π p.1)).bind (retS p.2) else .bad
@[simp] theorem callKC_p {π : List Nat} : callKC n F π (ds, s) = if ds.length = n then (F (perm D.non π ds)).bind (retS s) else .bad := nrfl rfl
@[simp] theorem ap_callK {π : List Nat} : eCallK n F π dA σ = (dA σ).bind (callKC n F π) := nrfl rfl
@[simp] theorem perm_nil : perm D.non [] ds = [] := nrfl rfl
@[simp] theorem perm_cons {π : List Nat} {k : Nat} : perm D.non (k :: π) ds = ds.getD k .non :: perm D.non π ds := nrfl rfl
def uBack (i : Nat) (b : Bool) (s : PSt) (o : Res (RV × List D)) : Res (RV × PSt) := match o with
  | .ok w => .ok (w.1, s.set i (.own b w.2))
  | _ => .bad
@[simp] theorem uBack_ok {b : Bool} : uBack i b s (.ok (r, ds)) = .ok (r, s.set i (.own b ds)) := nrfl rfl
def callUK (n : Nat) (U : Fu) (i : Nat) (ds : List D) (s : PSt) (o : Option SV) : Res (RV × PSt) := match o with
  | some (SV.own b xs) => if ds.length + 1 = n then uBack i b s (U xs ds) else .bad
  | _ => .bad
@[simp] theorem callUK_own {b : Bool} : callUK n U i ds σ (some (.own b xs)) = if ds.length + 1 = n then uBack i b σ (U xs ds) else .bad := nrfl rfl
def callUC (n : Nat) (U : Fu) (i : Nat) (p : List D × PSt) : Res (RV × PSt) := callUK n U i p.1 p.2 (p.2[i]?)
@[simp] theorem callUC_p : callUC n U i (ds, s) = callUK n U i ds s (s[i]?) := nrfl rfl
def callUH (n : Nat) (U : Fu) (i : Nat) (dA : DA) (σ : PSt) (o : Option SV) : Res (RV × PSt) := match o with
  | some (.own _ _) => (dA σ).bind (callUC n U i)
  | _ => .bad
@[simp] theorem callUH_own {b : Bool} : callUH n U i dA σ (some (.own b xs)) = (dA σ).bind (callUC n U i) := nrfl rfl
@[simp] theorem ap_callU : eCallU n U i dA σ = callUH n U i dA σ (σ[i]?) := by
  unfold eCallU
  cases σ[i]? with
  | none => rfl
  | some t =>
    cases t with
    | un => rfl
    | val d => rfl
    | own b xs =>
      exact bind_eq fun p => by
        unfold callUC callUK
        cases p.2[i]? with
        | none => rfl
        | some t =>
          cases t with
          | un => rfl
          | val d => rfl
          | own b xs =>
            dsimp only
            split
            · cases U xs p.1 <;> rfl
            · rfl
def uVal (s : PSt) (o : Res (RV × List D)) : Res (RV × PSt) := match o with
  | .ok (.val d, _) => .ok (.val d, s)
  | _ => .bad
@[simp] theorem uVal_ok : uVal s (.ok (.val d, ds)) = .ok (.val d, s) := nrfl rfl
def callNC (U : Fu) (p : RV × PSt) : Res (RV × PSt) := match p.1 with
  | .own xs => uVal p.2 (U xs [])
  | _ => .bad
@[simp] theorem callNC_p : callNC U (.own xs, s) = uVal s (U xs []) := nrfl rfl
@[simp] theorem ap_callN : eCallN U de σ = (de σ).bind (callNC U) := by
  unfold eCallN
  exact bind_eq fun p => by
    obtain ⟨r, t⟩ := p
    cases r with
    | val d => rfl
    | own xs =>
      dsimp only [callNC]
      unfold uVal
      cases U xs [] with
      | ok w =>
        obtain ⟨r, ys⟩ := w
        cases r <;> rfl
      | exc c x => rfl
      | bad => rfl
def ixO2 (s : PSt) (k : D) (o : Option SV) : Res (RV × PSt) := match o with
  | some (SV.own _ xs) => okP s (fIx (.lst xs) k)
  | _ => .bad
@[simp] theorem ixO2_own {b : Bool} {k : D} : ixO2 σ k (some (.own b xs)) = okP σ (fIx (.lst xs) k) := nrfl rfl
def ixO3 (i : Nat) (p : RV × PSt) : Res (RV × PSt) := ixO2 p.2 p.1.d (p.2[i]?)
@[simp] theorem ixO3_p : ixO3 i (r, s) = ixO2 s r.d (s[i]?) := nrfl rfl
def ixOK (i : Nat) (dc : DE) (σ : PSt) (o : Option SV) : Res (RV × PSt) := match o with
  | some (.own _ _) => (dc σ).bind (ixO3 i)
  | some (.val d) => (dc σ).bind (e2B fIx d)
  | _ => .bad
@[simp] theorem ixOK_own {b : Bool} : ixOK i dc σ (some (.own b xs)) = (dc σ).bind (ixO3 i) := nrfl rfl
@[simp] theorem ixOK_val : ixOK i dc σ (some (.val d)) = (dc σ).bind (e2B fIx d) := nrfl rfl
@[simp] theorem ap_ixO : eIxO i dc σ = ixOK i dc σ (σ[i]?) := by
  unfold eIxO
  cases h : σ[i]? with
  | none =>
    dsimp only
    rw [ap_e2, ap_var, h]
    rfl
  | some s =>
    cases s with
    | un =>
      dsimp only
      rw [ap_e2, ap_var, h]
      rfl
    | val d =>
      dsimp only
      rw [ap_e2, ap_var, h]
      rfl
    | own b xs =>
      exact bind_eq fun q => by
        unfold ixO3 ixO2
        cases q.2[i]? with
        | none => rfl
        | some t =>
          cases t with
          | un => rfl
          | val d => rfl
          | own b xs =>
            dsimp only
            unfold okP
            cases fIx (.lst xs) q.1.d <;> rfl
/-! ### targets -/
def gSetK (i : Nat) (d : D) (s : PSt) (o : Option SV) : Res PSt := match o with
  | some (.own true _) => .bad
  | none => .bad
  | _ => .ok (s.set i (.val d))
@[simp] theorem gSetK_un : gSetK i d σ (some .un) = .ok (σ.set i (.val d)) := nrfl rfl
@[simp] theorem gSetK_val {d' : D} : gSetK i d σ (some (.val d')) = .ok (σ.set i (.val d)) := nrfl rfl
@[simp] theorem gSetK_own : gSetK i d σ (some (.own false xs)) = .ok (σ.set i (.val d)) := nrfl rfl
@[simp] theorem ap_gSet : gSet i d σ = gSetK i d σ (σ[i]?) := nrfl rfl
@[simp] theorem ap_gsNil : gsNil [] σ = .ok σ := nrfl rfl
@[simp] theorem ap_gsCons : gsCons gd gs (d :: ds) σ = (gd d σ).bind (gs ds) := nrfl rfl
@[simp] theorem ap_gTup : gTupD n gs (.tup ds) σ = if ds.length = n then gs ds σ else .bad := nrfl rfl
def gSubJ (i : Nat) (b : Bool) (xs : List D) (d : D) (s : PSt) (o : Option Nat) : Res PSt := match o with
  | some j => .ok (s.set i (.own b (xs.set j d)))
  | none => .bad
@[simp] theorem gSubJ_some {b : Bool} {j : Nat} : gSubJ i b xs d s (some j) = .ok (s.set i (.own b (xs.set j d))) := nrfl rfl
def gSubK (i : Nat) (d k : D) (s : PSt) (o : Option SV) : Res PSt := match o, k with
  | some (.own b xs), .int k => gSubJ i b xs d s (ixN xs.length k)
  | _, _ => .bad
@[simp] theorem gSubK_own {b : Bool} {k : Int} : gSubK i d (.int k) σ (some (.own b xs)) = gSubJ i b xs d σ (ixN xs.length k) := nrfl rfl
def gSubC (i : Nat) (d : D) (o : Res (RV × PSt)) : Res PSt := match o with
  | .ok q => gSubK i d q.1.d q.2 (q.2[i]?)
  | _ => .bad
@[simp] theorem gSubC_ok : gSubC i d (.ok (r, s)) = gSubK i d r.d s (s[i]?) := nrfl rfl
def gSubH (i : Nat) (dk : DE) (d : D) (σ : PSt) (o : Option SV) : Res PSt := match o with
  | some (.own _ _) => gSubC i d (dk σ)
  | _ => .bad
@[simp] theorem gSubH_own {b : Bool} : gSubH i dk d σ (some (.own b xs)) = gSubC i d (dk σ) := nrfl rfl
@[simp] theorem ap_gSub : gSub i dk d σ = gSubH i dk d σ (σ[i]?) := by
  unfold gSub
  cases σ[i]? with
  | none => rfl
  | some t =>
    cases t with
    | un => rfl
    | val d => rfl
    | own b xs =>
      dsimp only [gSubH]
      cases dk σ with
      | exc c x => rfl
      | bad => rfl
      | ok q =>
        dsimp only [gSubC]
        unfold gSubK
        cases q.2[i]? with
        | none => rfl
        | some t =>
          cases t with
          | un => rfl
          | val d => rfl
          | own b xs =>
            cases q.1.d <;> first | rfl | (dsimp only [gSubJ]; cases ixN xs.length _ <;> rfl)
@[simp] theorem ap_roNil : roNil σ = .ok ([], σ) := nrfl rfl
def roB (r : RV) (p : List RV × PSt) : Res (List RV × PSt) := .ok (r :: p.1, p.2)
@[simp] theorem roB_p {rs : List RV} : roB r (rs, s) = .ok (r :: rs, s) := nrfl rfl
def roA (dr : DRs) (p : RV × PSt) : Res (List RV × PSt) := (dr p.2).bind (roB p.1)
@[simp] theorem roA_p {dr : DRs} : roA dr (r, s) = (dr s).bind (roB r) := nrfl rfl
@[simp] theorem ap_roCons {dr : DRs} : roCons de dr σ = (de σ).bind (roA dr) := nrfl rfl
def putC (ts : List (Nat × Bool)) (p : List RV × PSt) : Res Out := nextK (putRs ts p.1 p.2)
@[simp] theorem putC_p {ts : List (Nat × Bool)} {rs : List RV} : putC ts (rs, s) = nextK (putRs ts rs s) := nrfl rfl
@[simp] theorem ap_put {dr : DRs} {ts : List (Nat × Bool)} : dPut ts dr σ = (dr σ).bind (putC ts) := by
  unfold dPut
  exact bind_eq fun p => by
    unfold putC nextK
    cases putRs ts p.1 p.2 <;> rfl
def putK (i : Nat) (oo : Bool) (ts : List (Nat × Bool)) (r : RV) (rs : List RV) (σ : PSt) (o : Option SV) : Res PSt := match o with
  | some (.own true _) => .bad
  | none => .bad
  | _ => (match oo, r with
      | true, .own xs => putRs ts rs (σ.set i (.own false xs))
      | true, .val _ => .bad
      | false, r => putRs ts rs (σ.set i (.val r.d)))
@[simp] theorem putK_un {ts : List (Nat × Bool)} {r : RV} {rs : List RV} : putK i false ts r rs σ (some .un) = putRs ts rs (σ.set i (.val r.d)) := nrfl rfl
@[simp] theorem putK_val {ts : List (Nat × Bool)} {r : RV} {rs : List RV} : putK i false ts r rs σ (some (.val d)) = putRs ts rs (σ.set i (.val r.d)) := nrfl rfl
@[simp] theorem putK_ow {ts : List (Nat × Bool)} {r : RV} {rs : List RV} : putK i false ts r rs σ (some (.own false xs)) = putRs ts rs (σ.set i (.val r.d)) := nrfl rfl
@[simp] theorem putK_unO {ts : List (Nat × Bool)} {rs : List RV} : putK i true ts (.own ds) rs σ (some .un) = putRs ts rs (σ.set i (.own false ds)) := nrfl rfl
@[simp] theorem putK_valO {ts : List (Nat × Bool)} {rs : List RV} : putK i true ts (.own ds) rs σ (some (.val d)) = putRs ts rs (σ.set i (.own false ds)) := nrfl rfl
@[simp] theorem putK_owO {ts : List (Nat × Bool)} {rs : List RV} : putK i true ts (.own ds) rs σ (some (.own false xs)) = putRs ts rs (σ.set i (.own false ds)) := nrfl rfl
@[simp] theorem ap_putRs_nil : putRs [] [] σ = .ok σ := nrfl rfl
@[simp] theorem ap_putRs {oo : Bool} {ts : List (Nat × Bool)} {r : RV} {rs : List RV} : putRs ((i, oo) :: ts) (r :: rs) σ = putK i oo ts r rs σ (σ[i]?) := by
  unfold putRs
  unfold putK
  cases σ[i]? with
  | none => rfl
  | some t =>
    cases t with
    | un => cases oo <;> cases r <;> rfl
    | val d => cases oo <;> cases r <;> rfl
    | own b xs => cases b <;> cases oo <;> cases r <;> rfl
/-! ### and, or, not -/
def andK (db : DE) (d : D) (s : PSt) (o : Option Bool) : Res (RV × PSt) := match o with
  | some true => db s
  | some false => .ok (.val d, s)
  | none => .bad
@[simp] theorem andK_t {db : DE} : andK db d σ (some true) = db σ := nrfl rfl
@[simp] theorem andK_f {db : DE} : andK db d σ (some false) = .ok (.val d, σ) := nrfl rfl
def andC (db : DE) (p : RV × PSt) : Res (RV × PSt) := andK db p.1.d p.2 (truth p.1.d)
@[simp] theorem andC_p {db : DE} : andC db (r, s) = andK db r.d s (truth r.d) := nrfl rfl
@[simp] theorem ap_eAnd {db : DE} : eAnd da db σ = (da σ).bind (andC db) := nrfl rfl
def orK (db : DE) (d : D) (s : PSt) (o : Option Bool) : Res (RV × PSt) := match o with
  | some false => db s
  | some true => .ok (.val d, s)
  | none => .bad
@[simp] theorem orK_f {db : DE} : orK db d σ (some false) = db σ := nrfl rfl
@[simp] theorem orK_t {db : DE} : orK db d σ (some true) = .ok (.val d, σ) := nrfl rfl
def orC (db : DE) (p : RV × PSt) : Res (RV × PSt) := orK db p.1.d p.2 (truth p.1.d)
@[simp] theorem orC_p {db : DE} : orC db (r, s) = orK db r.d s (truth r.d) := nrfl rfl
@[simp] theorem ap_eOr {db : DE} : eOr da db σ = (da σ).bind (orC db) := nrfl rfl
def notK (s : PSt) (o : Option Bool) : Res (RV × PSt) := match o with
  | some k => .ok (.val (.bl (!k)), s)
  | none => .bad
@[simp] theorem notK_some {b : Bool} : notK s (some b) = .ok (.val (.bl (!b)), s) := nrfl rfl
def notC (p : RV × PSt) : Res (RV × PSt) := notK p.2 (truth p.1.d)
@[simp] theorem notC_p : notC (r, s) = notK s (truth r.d) := nrfl rfl
@[simp] theorem ap_eNot : eNot da σ = (da σ).bind notC := by
  unfold eNot
  exact bind_eq fun p => by
    unfold notC notK
    cases truth p.1.d <;> rfl
@[simp] theorem truth_bl {b : Bool} : truth (.bl b) = some b := nrfl rfl
@[simp] theorem truth_int {k : Int} : truth (.int k) = some (k != 0) := nrfl rfl
@[simp] theorem truth_non : truth .non = some false := nrfl rfl
@[simp] theorem truth_lst : truth (.lst xs) = some (!xs.isEmpty) := nrfl rfl
@[simp] theorem truth_tup : truth (.tup xs) = some (!xs.isEmpty) := nrfl rfl
/-! ### iterables, slices -/
def rg1K (p : List D × PSt) : Res (Itms × PSt) := match p.1 with
  | [.int j] => if -big ≤ j ∧ j ≤ big then .ok (⟨rangeD 0 1 j.toNat⟩, p.2) else .bad
  | _ => .bad
@[simp] theorem rg1K_int {j : Int} : rg1K ([.int j], σ) = if -big ≤ j ∧ j ≤ big then .ok (⟨rangeD 0 1 j.toNat⟩, σ) else .bad := nrfl rfl
@[simp] theorem ap_rg1 : iRange1 dA σ = (dA σ).bind rg1K := nrfl rfl
def rg2K (p : List D × PSt) : Res (Itms × PSt) := match p.1 with
  | [.int i, .int j] => if -big ≤ i ∧ i ≤ big ∧ -big ≤ j ∧ j ≤ big then .ok (⟨rangeD i 1 (j - i).toNat⟩, p.2) else .bad
  | _ => .bad
@[simp] theorem rg2K_int {i j : Int} : rg2K ([.int i, .int j], σ) = if -big ≤ i ∧ i ≤ big ∧ -big ≤ j ∧ j ≤ big then .ok (⟨rangeD i 1 (j - i).toNat⟩, σ) else .bad := nrfl rfl
@[simp] theorem ap_rg2 : iRange2 dA σ = (dA σ).bind rg2K := nrfl rfl
def rgDK (p : List D × PSt) : Res (Itms × PSt) := match p.1 with
  | [.int i, .int j, .int c] => if -big ≤ i ∧ i ≤ big ∧ -big ≤ j ∧ j ≤ big ∧ c = -1 then .ok (⟨rangeD i (-1) (i - j).toNat⟩, p.2) else .bad
  | _ => .bad
@[simp] theorem rgDK_int {i j c : Int} : rgDK ([.int i, .int j, .int c], σ) = if -big ≤ i ∧ i ≤ big ∧ -big ≤ j ∧ j ≤ big ∧ c = -1 then .ok (⟨rangeD i (-1) (i - j).toNat⟩, σ) else .bad := nrfl rfl
@[simp] theorem ap_rgD : iRangeD dA σ = (dA σ).bind rgDK := nrfl rfl
def itK (s : PSt) (o : Option (List D)) : Res (Itms × PSt) := match o with
  | some l => .ok (⟨l⟩, s)
  | none => .bad
@[simp] theorem itK_some : itK s (some xs) = .ok (⟨xs⟩, s) := nrfl rfl
def iOfC (p : RV × PSt) : Res (Itms × PSt) := itK p.2 (seqD p.1.d)
@[simp] theorem iOfC_p : iOfC (r, s) = itK s (seqD r.d) := nrfl rfl
@[simp] theorem ap_iOf : iOf de σ = (de σ).bind iOfC := by
  unfold iOf
  exact bind_eq fun p => by
    unfold iOfC itK
    cases seqD p.1.d <;> rfl
@[simp] theorem seqD_tup : seqD (.tup xs) = some xs := nrfl rfl
@[simp] theorem seqD_lst : seqD (.lst xs) = some xs := nrfl rfl
@[simp] theorem seqD_scr {ns : List Int} : seqD (.scr ns) = some (ns.map .int) := nrfl rfl
def soK (p : RV × PSt) : Res (Option Int × PSt) := match p.1.d with
  | .int i => .ok (some i, p.2)
  | _ => .bad
@[simp] theorem soK_int {k : Int} : soK (.val (.int k), σ) = .ok (some k, σ) := nrfl rfl
@[simp] theorem ap_oSome : oSome de σ = (de σ).bind soK := nrfl rfl
@[simp] theorem ap_oNone : oNone σ = .ok (none, σ) := nrfl rfl
def slC (d : D) (l : Option Int) (p : Option Int × PSt) : Res (RV × PSt) := okP p.2 (fSl d l p.1)
@[simp] theorem slC_p {l h : Option Int} : slC d l (h, s) = okP s (fSl d l h) := nrfl rfl
def slB (d : D) (dh : DO) (p : Option Int × PSt) : Res (RV × PSt) := (dh p.2).bind (slC d p.1)
@[simp] theorem slB_p {l : Option Int} {dh : DO} : slB d dh (l, s) = (dh s).bind (slC d l) := nrfl rfl
def slA (dl dh : DO) (p : RV × PSt) : Res (RV × PSt) := (dl p.2).bind (slB p.1.d dh)
@[simp] theorem slA_p {dl dh : DO} : slA dl dh (r, s) = (dl s).bind (slB r.d dh) := nrfl rfl
@[simp] theorem ap_sl {dl dh : DO} : eSl da dl dh σ = (da σ).bind (slA dl dh) := by
  unfold eSl
  exact bind_eq fun p => bind_eq fun q => bind_eq fun t => by
    unfold slC okP
    cases fSl p.1.d q.1 t.1 <;> rfl
@[simp] theorem fSl_tup {lo hi : Option Int} : fSl (.tup xs) lo hi = some (.val (.tup (cutG xs lo hi))) := nrfl rfl
@[simp] theorem fSl_lst {lo hi : Option Int} : fSl (.lst xs) lo hi = some (.own (cutG xs lo hi)) := nrfl rfl
@[simp] theorem fSl_scr {ns : List Int} {lo hi : Option Int} : fSl (.scr ns) lo hi = some (.own ((cutG ns lo hi).map .int)) := nrfl rfl
/-! ### operations -/
variable {j k : Int}
@[simp] theorem fI0_int {g : Int → Int → D} : fI0 g (.int k) (.int j) = some (.val (g k j)) := nrfl rfl
@[simp] theorem fI_int {C : Int → Int → Bool} {g : Int → Int → D} : fI C g (.int k) (.int j) = if C k j = true then some (.val (g k j)) else none := nrfl rfl
@[simp] theorem fAdd_int : fAdd (.int k) (.int j) = some (.val (.int (k + j))) := nrfl rfl
@[simp] theorem fAdd_lst {ys : List D} : fAdd (.lst xs) (.lst ys) = if xs.length + ys.length ≤ most then some (.own (xs ++ ys)) else none := nrfl rfl
@[simp] theorem fAdd_tup {ys : List D} : fAdd (.tup xs) (.tup ys) = if xs.length + ys.length ≤ most then some (.val (.tup (xs ++ ys))) else none := by
  unfold fAdd
  show (Option.or none (Option.or (if xs.length + ys.length ≤ most then some (RV.val (.tup (xs ++ ys))) else none) none)) = _
  split <;> rfl
@[simp] theorem fMul_int : fMul (.int k) (.int j) = if bMul k j = true then some (.val (.int (k * j))) else none := by
  unfold fMul
  show (Option.or (if bMul k j = true then _ else none) none) = _
  split <;> rfl
@[simp] theorem fMul_lst : fMul (.lst xs) (.int k) = if -1000000 ≤ k ∧ k ≤ 1000000 ∧ xs.length * k.toNat ≤ most then some (.own (List.replicate k.toNat xs).flatten) else none := by
  unfold fMul
  show (Option.or none (Option.or (if -1000000 ≤ k ∧ k ≤ 1000000 ∧ xs.length * k.toNat ≤ most then some (RV.own (List.replicate k.toNat xs).flatten) else none) none)) = _
  split <;> rfl
theorem bMul_r (h : -(2 ^ 64) < j ∧ j < 2 ^ 64) : bMul k j = true := by
  unfold bMul
  rw [decide_eq_true h.1, decide_eq_true h.2]
  simp
theorem bMul_l (h : -(2 ^ 64) < k ∧ k < 2 ^ 64) : bMul k j = true := by
  unfold bMul
  rw [decide_eq_true h.1, decide_eq_true h.2]
  simp
theorem bDiv_of (h : 0 < j ∧ j < 1073741824) : bDiv k j = true := by
  unfold bDiv
  rw [decide_eq_true h.1, decide_eq_true h.2]
  rfl
theorem bPos_of (h : 0 < j) : bPos k j = true := decide_eq_true h
@[simp] theorem fIx_tup : fIx (.tup xs) (.int k) = (atI xs k).map .val := nrfl rfl
@[simp] theorem fIx_lst : fIx (.lst xs) (.int k) = (atI xs k).map .val := nrfl rfl
@[simp] theorem fIx_scr {ns : List Int} : fIx (.scr ns) (.int k) = (atI ns k).map fun n => .val (.int n) := nrfl rfl
theorem atI_in {α : Type} {xs : List α} {k : Int} (h0 : 0 ≤ k) : atI xs k = xs[k.toNat]? := by
  unfold atI ixN
  by_cases h : k < xs.length
  · rw [if_pos h0, if_pos h]
    rfl
  · rw [if_pos h0, if_neg h, List.getElem?_eq_none (by omega)]
    rfl
theorem atI_ok {α : Type} {xs : List α} {k : Int} {a : α} (h0 : 0 ≤ k) (h : xs[k.toNat]? = some a) : atI xs k = some a := by rw [atI_in h0, h]
@[simp] theorem atI_0 {α : Type} {x : α} {xs : List α} : atI (x :: xs) 0 = some x := atI_ok (by decide) rfl
@[simp] theorem atI_1 {α : Type} {x y : α} {xs : List α} : atI (x :: y :: xs) 1 = some y := atI_ok (by decide) rfl
@[simp] theorem atI_2 {α : Type} {x y z : α} {xs : List α} : atI (x :: y :: z :: xs) 2 = some z := atI_ok (by decide) rfl
@[simp] theorem ixN_0 {n : Nat} : ixN (n + 1) 0 = some 0 := ixN_at (j := 0) (by omega)
@[simp] theorem ixN_1 {n : Nat} : ixN (n + 1 + 1) 1 = some 1 := ixN_at (j := 1) (by omega)
@[simp] theorem ixN_2 {n : Nat} : ixN (n + 1 + 1 + 1) 2 = some 2 := ixN_at (j := 2) (by omega)
@[simp] theorem fInt_int : fInt [.int k] = some (.val (.int k)) := nrfl rfl
@[simp] theorem fAbs_int : fAbs [.int k] = some (.val (.int (if k < 0 then -k else k))) := nrfl rfl
@[simp] theorem fDivmod_int : fDivmod [.int k, .int j] = if 0 < j ∧ j < 1073741824 then some (.val (.tup [.int (k / j), .int (k % j)])) else none := nrfl rfl
@[simp] theorem fLen_lst : fLen [.lst xs] = some (.val (.int xs.length)) := nrfl rfl
@[simp] theorem fLen_tup : fLen [.tup xs] = some (.val (.int xs.length)) := nrfl rfl
@[simp] theorem fLen_scr {ns : List Int} : fLen [.scr ns] = some (.val (.int ns.length)) := nrfl rfl
@[simp] theorem fMax2_int : fMax2 [.int k, .int j] = some (.val (.int (if j > k then j else k))) := nrfl rfl
@[simp] theorem fMin2_int : fMin2 [.int k, .int j] = some (.val (.int (if j < k then j else k))) := nrfl rfl
@[simp] theorem fIs_t {d : D} : fIs true d .non = some (.val (.bl (!isNon d))) := nrfl rfl
@[simp] theorem fIs_f {d : D} : fIs false d .non = some (.val (.bl (isNon d))) := nrfl rfl
@[simp] theorem isNon_int : isNon (.int k) = false := nrfl rfl
@[simp] theorem isNon_non : isNon .non = true := nrfl rfl
@[simp] theorem isNon_tup : isNon (.tup xs) = false := nrfl rfl
@[simp] theorem isNon_lst : isNon (.lst xs) = false := nrfl rfl
theorem isi_int_int : fIsi [.int k, .ty "int"] = some (.val (.bl true)) := by
  have h : kitB "int" "int" = some true := by decide +kernel
  simp only [fIsi, tyN, h, Option.map]
theorem isi_int_bool : fIsi [.int k, .ty "bool"] = some (.val (.bl false)) := by
  have h : kitB "int" "bool" = some false := by decide +kernel
  simp only [fIsi, tyN, h, Option.map]
end
/-! ### loops -/
section
variable {gd : DG} {db : DS} {dt : DT} {de : DE} {σ : PSt}
theorem forGo_nil : forGo gd db [] σ = .ok (.next σ) := rfl
theorem forGo_cons {d : D} {ds : List D} {s s' : PSt} (h1 : gd d σ = .ok s) (h2 : db s = .ok (.next s')) : forGo gd db (d :: ds) σ = forGo gd db ds s' := by
  rw [forGo]
  dsimp only
  rw [h1]
  dsimp only
  rw [h2]
  rfl
/-- a loop that goes through: J at the i-th turn -/
theorem forGo_inv (J : Nat → PSt → Prop) : ∀ (ds : List D) (i : Nat) (σ : PSt), J i σ → (∀ (j : Nat) (d : D) (σ : PSt), ds[j]? = some d → J (i + j) σ → ∃ s s', gd d σ = .ok s ∧ db s = .ok (.next s') ∧ J (i + j + 1) s') → ∃ σ', forGo gd db ds σ = .ok (.next σ') ∧ J (i + ds.length) σ'
  | [], i, σ, h, _ => ⟨σ, rfl, h⟩
  | d :: ds, i, σ, h, q => by
    obtain ⟨s, s', h1, h2, h3⟩ := q 0 d σ rfl h
    obtain ⟨σ', h4, h5⟩ := forGo_inv J ds (i + 1) s' h3 fun j d' σ1 e hj => by
      rw [Nat.add_assoc, Nat.add_comm 1 j] at hj
      obtain ⟨s, s', h1, h2, h3⟩ := q (j + 1) d' σ1 (by rw [List.getElem?_cons_succ]; exact e) hj
      exact ⟨s, s', h1, h2, by rw [Nat.add_assoc i 1 j, Nat.add_comm 1 j]; exact h3⟩
    refine ⟨σ', ?_, by rw [List.length_cons, Nat.add_comm ds.length 1, ← Nat.add_assoc]; exact h5⟩
    rw [forGo_cons h1 h2]
    exact h4
/-- a comprehension without tests: f of each item -/
theorem lc_map {vs : List Nat} (f : D → D) (σw : PSt) : ∀ (ds : List D) (acc : List D), (∀ d ∈ ds, ∃ σ1 r σ2, gd d σw = .ok σ1 ∧ dt σ1 = .ok (true, σ1) ∧ de σ1 = .ok (r, σ2) ∧ r.d = f d ∧ noOwn σ2 vs = true ∧ wipeD σ2 vs = σw) → acc.length + ds.length ≤ most →
    lcGo gd dt de vs ds σw acc = .ok (acc ++ ds.map f, σw)
  | [], acc, _, _ => by
    rw [lcGo, List.map_nil, List.append_nil]
  | d :: ds, acc, h, hl => by
    rw [List.length_cons] at hl
    obtain ⟨σ1, r, σ2, h1, h2, h3, h4, h5, h6⟩ := h d List.mem_cons_self
    rw [lcGo, h1]
    dsimp only
    rw [h2]
    dsimp only
    rw [h3]
    dsimp only
    rw [if_pos ⟨h5, by omega⟩, h6, h4, lc_map f σw ds (acc ++ [f d]) (fun d' hd => h d' (List.mem_cons_of_mem _ hd)) (by rw [List.length_append, List.length_singleton]; omega), List.map_cons, List.append_assoc]
    rfl
theorem ap_lc {di : DI} {vs : List Nat} {σ1 : PSt} {ds res : List D} (h1 : di σ = .ok (⟨ds⟩, σ1)) (h2 : noOwn σ1 vs = true) (h3 : lcGo gd dt de vs ds (wipeD σ1 vs) [] = .ok (res, wipeD σ1 vs)) (h4 : unwipe σ1 (wipeD σ1 vs) vs = σ1) : eLc di gd dt de vs σ = .ok (.own res, σ1) := by
  unfold eLc
  rw [h1, Res.bind_ok, if_pos h2]
  dsimp only
  rw [h3]
  dsimp only
  rw [if_pos (wiped_no _ _), h4]
@[simp] theorem ap_true : tTrue σ = .ok (true, σ) := nrfl rfl
end
end PL
namespace PL
open PySem PySem.Spec PyProof.Rows L2
theorem runU_ret {n : Nat} {d : DS} {xs ys : List D} {ds : List D} {σ s0 : PSt} {r : RV} (h0 : slots n (.own true xs :: ds.map .val) = s0) (h : d s0 = .ok (.ret r σ)) (h2 : σ[0]? = some (.own true ys)) : runU n d xs ds = .ok (r, ys) := by
  unfold runU
  rw [h0, h]
  dsimp only
  rw [h2]
theorem runF_ret {n : Nat} {d : DS} {ds : List D} {σ s0 : PSt} {r : RV} (h0 : slots n (ds.map .val) = s0) (h : d s0 = .ok (.ret r σ)) : runF n d ds = .ok r := by
  unfold runF
  rw [h0, h]
theorem runF_next {n : Nat} {d : DS} {ds : List D} {σ s0 : PSt} (h0 : slots n (ds.map .val) = s0) (h : d s0 = .ok (.next σ)) : runF n d ds = .ok (.val .non) := by
  unfold runF
  rw [h0, h]
theorem bMul_modl {k j c : Int} (h : 0 < c) (h2 : c < 2 ^ 64) : bMul (k % c) j = true := bMul_l ⟨by have := Int.emod_nonneg k (Int.ne_of_gt h); omega, by have := Int.emod_lt_of_pos k h; omega⟩
theorem bMul_modr {k j c : Int} (h : 0 < c) (h2 : c < 2 ^ 64) : bMul j (k % c) = true := bMul_r ⟨by have := Int.emod_nonneg k (Int.ne_of_gt h); omega, by have := Int.emod_lt_of_pos k h; omega⟩
def Urn (xs : List D) : Prop := ∃ a m n : Int, xs = [.int a, .int m, .int n]
section
variable {σ s : PSt} {de : DE} {dt : DT} {db : DS} {i n : Nat} {d : D} {r : RV} {xs : List D}
def appK (i : Nat) (d : D) (s : PSt) (o : Option SV) : Res Out := match o with
  | some (.own b xs) => if xs.length < most then .ok (.next (s.set i (.own b (xs ++ [d])))) else .bad
  | _ => .bad
@[simp] theorem appK_own {b : Bool} : appK i d s (some (.own b xs)) = if xs.length < most then .ok (.next (s.set i (.own b (xs ++ [d])))) else .bad := nrfl rfl
def appC (i : Nat) (p : RV × PSt) : Res Out := appK i p.1.d p.2 (p.2[i]?)
@[simp] theorem appC_p : appC i (r, s) = appK i r.d s (s[i]?) := nrfl rfl
def appH (i : Nat) (de : DE) (σ : PSt) (o : Option SV) : Res Out := match o with
  | some (.own _ _) => (de σ).bind (appC i)
  | _ => .bad
@[simp] theorem appH_own {b : Bool} : appH i de σ (some (.own b xs)) = (de σ).bind (appC i) := nrfl rfl
@[simp] theorem ap_app : dApp i de σ = appH i de σ (σ[i]?) := by
  unfold dApp
  cases σ[i]? with
  | none => rfl
  | some t =>
    cases t with
    | un => rfl
    | val d => rfl
    | own b xs =>
      exact bind_eq fun p => by
        unfold appC appK
        cases p.2[i]? with
        | none => rfl
        | some t => cases t <;> rfl
theorem wh_end {n : Nat} {s : PSt} (h : dt σ = .ok (false, s)) : dWh dt db (n + 1) σ = .ok (.next s) := by
  rw [dWh]
  dsimp only
  rw [h]
  rfl
theorem wh_go {n : Nat} {s s' : PSt} (h : dt σ = .ok (true, s)) (h2 : db s = .ok (.next s')) : dWh dt db (n + 1) σ = dWh dt db n s' := by
  rw [dWh]
  dsimp only
  rw [h]
  show (db s).bind _ = _
  rw [h2]
  rfl
@[simp] theorem fPow_int {k j : Int} : fPowI (.int k) (.int j) = if bPow k j = true then some (.val (.int (k ^ j.toNat))) else none := nrfl rfl
@[simp] theorem bls_nil : bls [] = some [] := nrfl rfl
@[simp] theorem bls_cons {b : Bool} : bls (.bl b :: xs) = (bls xs).map (b :: ·) := nrfl rfl
@[simp] theorem fAll_lst : fAll [.lst xs] = (bls xs).map fun bs => .val (.bl (bs.all id)) := nrfl rfl
end
end PL
/-! PL16: loops over ranges. -/
namespace PL
open PySem PySem.Spec PyProof.Rows L2
section
variable {σ : PSt} {dA : DA} {x : DE} {db : DS} {v : Nat}
theorem lt_of_get' {α : Type} {l : List α} {i : Nat} {a : α} (h : l[i]? = some a) : i < l.length := (List.getElem?_eq_some_iff.mp h).1
theorem rangeD_get {lo c : Int} {n k : Nat} (h : k < n) : (rangeD lo c n)[k]? = some (.int (lo + (k : Int) * c)) := by
  unfold rangeD
  rw [List.getElem?_map, List.getElem?_range h]
  rfl
theorem rangeD_up (c : Nat) : rangeD 0 1 c = (List.range c).map fun (k : Nat) => D.int k := by
  unfold rangeD
  exact List.map_congr_left fun k _ => by rw [Int.mul_one, Int.zero_add]
theorem set_un (h : σ[v]? = some .un) : σ.set v .un = σ := by
  apply List.ext_getElem?
  intro i
  by_cases e : v = i
  · subst e
    have hv : v < σ.length := lt_of_get h
    rw [List.getElem?_set_self hv, h]
  · rw [List.getElem?_set_ne e]
theorem gSet_ok {d : D} (h : σ[v]? = some .un ∨ ∃ e, σ[v]? = some (.val e)) : gSet v d σ = .ok (σ.set v (.val d)) := by
  rw [ap_gSet]
  rcases h with h | ⟨e, h⟩ <;> rw [h] <;> rfl
theorem noOwn1 {s : SV} (h : σ[v]? = some s) (hs : ∀ b xs, s ≠ .own b xs) : noOwn σ [v] = true := by
  unfold noOwn
  rw [List.all_cons, List.all_nil, Bool.and_true, h]
  cases s with
  | un => rfl
  | val d => rfl
  | own b xs => exact absurd rfl (hs b xs)
theorem rg1_ok {c : Nat} {σ1 : PSt} (hc : c ≤ 1000000) (h : dA σ = .ok ([.int c], σ1)) : iRange1 dA σ = .ok (⟨(List.range c).map fun (k : Nat) => D.int k⟩, σ1) := by
  rw [ap_rg1, h, Res.bind_ok, rg1K_int, if_pos (by unfold big; omega), show ((c : Nat) : Int).toNat = c from rfl, rangeD_up]
theorem rg2_ok {a b : Nat} {σ1 : PSt} (ha : a ≤ 1000000) (hb : b ≤ 1000000) (h : dA σ = .ok ([.int a, .int b], σ1)) : iRange2 dA σ = .ok (⟨(List.range (b - a)).map fun (k : Nat) => D.int ((a + k : Nat) : Int)⟩, σ1) := by
  rw [ap_rg2, h, Res.bind_ok, rg2K_int, if_pos (by unfold big; omega), show (((b : Nat) : Int) - (a : Nat)).toNat = b - a by omega]
  unfold rangeD
  congr 3
  exact List.map_congr_left fun k _ => by rw [Int.mul_one, Int.natCast_add]
theorem rgD_ok {a b : Nat} {σ1 : PSt} (ha : a ≤ 1000000) (hb : b ≤ a) (h : dA σ = .ok ([.int a, .int b, .int (-1)], σ1)) : iRangeD dA σ = .ok (⟨(List.range (a - b)).map fun (k : Nat) => D.int ((a - k : Nat) : Int)⟩, σ1) := by
  rw [ap_rgD, h, Res.bind_ok, rgDK_int, if_pos (by unfold big; omega), show (((a : Nat) : Int) - (b : Nat)).toNat = a - b by omega]
  unfold rangeD
  congr 3
  exact List.map_congr_left fun k hk => by
    have := List.mem_range.mp hk
    rw [show ((a : Nat) : Int) + (k : Int) * -1 = ((a - k : Nat) : Int) by omega]
/-- [x for v in items], the items d k -/
theorem lc_items {di : DI} {ds : List D} (hd : ds.length ≤ most) (h : di σ = .ok (⟨ds⟩, σ)) (hv : σ[v]? = some .un) (g : D → D) (hx : ∀ d ∈ ds, ∃ r, x (σ.set v (.val d)) = .ok (r, σ.set v (.val d)) ∧ r.d = g d) :
    eLc di (gSet v) tTrue x [v] σ = .ok (.own (ds.map g), σ) := by
  have hw : wipeD σ [v] = σ := set_un hv
  have hl : v < σ.length := lt_of_get hv
  refine ap_lc h (noOwn1 hv fun _ _ z => nomatch z) ?_ ?_
  · rw [hw]
    refine (lc_map g σ ds [] (fun d hd => ?_) (by rw [List.length_nil]; omega)).trans rfl
    obtain ⟨r, e, er⟩ := hx d hd
    refine ⟨_, r, _, gSet_ok (.inl hv), rfl, e, er, noOwn1 (List.getElem?_set_self hl) (fun _ _ z => nomatch z), ?_⟩
    show (σ.set v (.val d)).set v .un = σ
    rw [List.set_set]
    exact set_un hv
  · rw [hw]
    show σ.set v ((σ[v]?).getD .un) = σ
    rw [hv]
    exact set_un hv
theorem lc_range {c : Nat} (hc : c ≤ 1000000) (h : dA σ = .ok ([.int c], σ)) (hv : σ[v]? = some .un) (g : Nat → D) (hx : ∀ k < c, ∃ r, x (σ.set v (.val (.int (k : Nat)))) = .ok (r, σ.set v (.val (.int (k : Nat)))) ∧ r.d = g k) :
    eLc (iRange1 dA) (gSet v) tTrue x [v] σ = .ok (.own ((List.range c).map g), σ) := by
  have e := lc_items (x := x) (by rw [List.length_map, List.length_range]; exact hc) (rg1_ok hc h) hv (fun d => match d with | .int k => g k.toNat | _ => .non) fun d hd => by
    obtain ⟨k, hk, rfl⟩ := List.mem_map.mp hd
    exact hx k (List.mem_range.mp hk)
  rw [e, List.map_map]
  rfl
/-- for v in items -/
theorem for_items {di : DI} {ds : List D} {σ1 : PSt} (J : Nat → PSt → Prop) (h : di σ = .ok (⟨ds⟩, σ1)) (h0 : J 0 σ1) (hj : ∀ (k : Nat) (d : D) (τ : PSt), ds[k]? = some d → J k τ → (τ[v]? = some .un ∨ ∃ e, τ[v]? = some (.val e)) ∧ ∃ s', db (τ.set v (.val d)) = .ok (.next s') ∧ J (k + 1) s') :
    ∃ σ', dFor di (gSet v) db σ = .ok (.next σ') ∧ J ds.length σ' := by
  rw [ap_for, h, Res.bind_ok, forC_p]
  obtain ⟨σ', e, q⟩ := forGo_inv (gd := gSet v) (db := db) J ds 0 σ1 h0 fun j d τ e q => by
    rw [Nat.zero_add] at q ⊢
    obtain ⟨hv, s', e1, e2⟩ := hj j d τ e q
    exact ⟨_, s', gSet_ok hv, e1, e2⟩
  rw [Nat.zero_add] at q
  exact ⟨σ', e, q⟩
theorem for_nat {di : DI} {n : Nat} {f : Nat → D} {σ1 : PSt} (J : Nat → PSt → Prop) (h : di σ = .ok (⟨(List.range n).map f⟩, σ1)) (h0 : J 0 σ1) (hj : ∀ (k : Nat) (τ : PSt), k < n → J k τ → (τ[v]? = some .un ∨ ∃ e, τ[v]? = some (.val e)) ∧ ∃ s', db (τ.set v (.val (f k))) = .ok (.next s') ∧ J (k + 1) s') :
    ∃ σ', dFor di (gSet v) db σ = .ok (.next σ') ∧ J n σ' := by
  obtain ⟨σ', e, q⟩ := for_items (v := v) (db := db) J h h0 fun k d τ e q => by
    have hk : k < n := by
      have := lt_of_get' e
      rw [List.length_map, List.length_range] at this
      exact this
    rw [List.getElem?_map, List.getElem?_range hk] at e
    have e : f k = d := Option.some.inj e
    subst e
    exact hj k τ hk q
  rw [List.length_map, List.length_range] at q
  exact ⟨σ', e, q⟩
end
end PL
set_option maxHeartbeats 0
/-! derivations, printed by gen.py -/
namespace PL
open PySem PySem.Spec PyProof.Rows L2
def topS (i : Nat) : Stmt := PySem.Challenge.pw_hourpicks_k54_whole_numbers_of_lots_and.main.body.getD i (.Pass ⟨0, 0, 0, 0⟩)
abbrev s_law_take : Stmt := topS 28
theorem sc_law_take : FnScope ["urn", "many", "figure", "stir"] ["urn", "many"] (defScope s_law_take) := ⟨rfl, rfl, rfl, by decide +kernel, rfl, by decide +kernel, by decide +kernel⟩
def d_law_take : DS := (dSeq (dIf (tBl (PL.e2 (fI0 fun i j => .bl (decide (j < i))) (eIxO 0 (dC (.int 0))) (dC (.int 0)))) (dSeq (dAsg (eL fDivmod (aCons (eIxO 0 (dC (.int 0))) (aCons (dVar 1) aNil))) (gTupD 2 (gsCons (gSub 0 (dC (.int 0))) (gsCons (gSet 2) gsNil)))) (dRet (dVar 2))) dNil) (dSeq (dAsg (PL.e2 fAdd (eIxO 0 (dC (.int 2))) (dC (.int 1))) (gSub 0 (dC (.int 2)))) (dSeq (dSet 3 (PL.e2 fModI (eL fInt (aCons (PL.e2 fAdd (PL.e2 fMul (eIxO 0 (dC (.int 1))) (dC (.int 40009))) (PL.e2 fMul (dC (.int 15013)) (eIxO 0 (dC (.int 2))))) aNil)) (dC (.int 2147483629)))) (dSeq (dAsg (PL.e2 fModI (eL fInt (aCons (PL.e2 fAdd (PL.e2 fMul (dVar 3) (PL.e2 fAdd (PL.e2 fModI (eL fInt (aCons (dVar 3) aNil)) (dC (.int 5003))) (dC (.int 30011)))) (PL.e2 fMul (dC (.int 3)) (eIxO 0 (dC (.int 2))))) aNil)) (dC (.int 2147483629))) (gSub 0 (dC (.int 1)))) (dRet (PL.e2 fModI (eL fInt (aCons (PL.e2 fDivI (eIxO 0 (dC (.int 1))) (dC (.int 907))) aNil)) (dVar 1)))))))
def U_law_take : Fu := runU 4 d_law_take
abbrev s_law_of : Stmt := topS 29
theorem sc_law_of : FnScope ["urn", "some"] ["urn", "some"] (defScope s_law_of) := ⟨rfl, rfl, rfl, by decide +kernel, rfl, by decide +kernel, by decide +kernel⟩
def d_law_of : DS := (dRet (eIxO 1 (eCallU 2 U_law_take 0 (aCons (eL fLen (aCons (dVar 1) aNil)) aNil))))
def U_law_of : Fu := runU 2 d_law_of
abbrev s_law_clock : Stmt := topS 30
theorem sc_law_clock : FnScope ["urn", "most"] ["urn", "most"] (defScope s_law_clock) := ⟨rfl, rfl, rfl, by decide +kernel, rfl, by decide +kernel, by decide +kernel⟩
def d_law_clock : DS := (dRet (eCallU 2 U_law_of 0 (aCons (eLst (aCons (dC (.int 2)) (aCons (dVar 1) (aCons (PL.e2 fAdd (dC (.int 2)) (eCallU 2 U_law_take 0 (aCons (PL.e2 fSubI (dVar 1) (dC (.int 1))) aNil))) (aCons (PL.e2 fAdd (dC (.int 2)) (eCallU 2 U_law_take 0 (aCons (PL.e2 fSubI (dVar 1) (dC (.int 1))) aNil))) aNil))))) aNil)))
def U_law_clock : Fu := runU 2 d_law_clock
abbrev s_law_counted : Stmt := topS 32
theorem sc_law_counted : FnScope ["clock", "size", "is_row", "rows", "hour", "old", "many", "less", "lap", "k"] ["clock", "size", "is_row"] (defScope s_law_counted) := ⟨rfl, rfl, rfl, by decide +kernel, rfl, by decide +kernel, by decide +kernel⟩
def x_law_counted_1 : DE := (PL.e2 fMul (eLst (aCons (dC (.int 0)) aNil)) (dVar 0))
def x_law_counted_2 : DE := (PL.e2 fAdd (PL.e2 fIx (eIxO 5 (dVar 6)) (dVar 9)) (eIxO 7 (PL.e2 fModI (eL fInt (aCons (PL.e2 fSubI (dVar 9) (dVar 4)) aNil)) (dVar 0))))
def b_law_counted_3 : DS := (dSeq (dSet 7 (eIf (tOf (dVar 2)) (eIxO 3 (PL.e2 fSubI (dVar 6) (dC (.int 1)))) (eIxO 5 (PL.e2 fSubI (dVar 6) (dC (.int 1)))))) (dApp 3 (eLc (iRange1 (aCons (dVar 0) aNil)) (gSet 9) tTrue x_law_counted_2 [9])))
def b_law_counted_4 : DS := (dSeq (dSet 5 (dVar 3)) (dSeq (dSetO 3 (eLst (aCons (eIxO 5 (dC (.int 0))) aNil))) (dFor (iRange2 (aCons (dC (.int 1)) (aCons (PL.e2 fAdd (dVar 1) (dC (.int 1))) aNil))) (gSet 6) b_law_counted_3)))
def d_law_counted : DS := (dSeq (dSetO 3 (PL.e2 fAdd (eLst (aCons (PL.e2 fAdd (eLst (aCons (dC (.int 1)) aNil)) (PL.e2 fMul (eLst (aCons (dC (.int 0)) aNil)) (PL.e2 fSubI (dVar 0) (dC (.int 1))))) aNil)) (eLc (iRange1 (aCons (dVar 1) aNil)) (gSet 8) tTrue x_law_counted_1 [8]))) (dSeq (dFor (iRange1 (aCons (dVar 0) aNil)) (gSet 4) b_law_counted_4) (dRet (dVar 3))))
def F_law_counted : Fd := runF 10 d_law_counted
abbrev s_is_whole : Stmt := topS 1
theorem sc_is_whole : FnScope ["value"] ["value"] (defScope s_is_whole) := ⟨rfl, rfl, rfl, by decide +kernel, rfl, by decide +kernel, by decide +kernel⟩
def d_is_whole : DS := (dRet (eAnd (eL fIsi (aCons (dVar 0) (aCons (dC (.ty "int")) aNil))) (eNot (eL fIsi (aCons (dVar 0) (aCons (dC (.ty "bool")) aNil))))))
def F_is_whole : Fd := runF 1 d_is_whole
abbrev s_is_number : Stmt := topS 2
theorem sc_is_number : FnScope ["value", "low", "high"] ["value", "low", "high"] (defScope s_is_number) := ⟨rfl, rfl, rfl, by decide +kernel, rfl, by decide +kernel, by decide +kernel⟩
def d_is_number : DS := (dSeq (dIf (tOr2 (tNot1 (tOf (eCall 1 F_is_whole (aCons (dVar 0) aNil)))) (tAnd2 (tBl (PL.e2 (fIs true) (dVar 1) (dC .non))) (tBl (PL.e2 (fI0 fun i j => .bl (decide (i < j))) (dVar 0) (dVar 1))))) (dRet (dC (.bl false))) dNil) (dRet (eOr (PL.e2 (fIs false) (dVar 2) (dC .non)) (PL.e2 (fI0 fun i j => .bl (decide (i ≤ j))) (dVar 0) (dVar 2)))))
def F_is_number : Fd := runF 3 d_is_number
abbrev s_is_clock_form : Stmt := topS 6
theorem sc_is_clock_form : FnScope ["value"] ["value"] (defScope s_is_clock_form) := ⟨rfl, rfl, rfl, by decide +kernel, rfl, by decide +kernel, by decide +kernel⟩
def d_is_clock_form : DS := (dRet (eCall 3 F_is_number (aCons (dVar 0) (aCons (dC (.int 2)) (aCons (dC (.int 24)) aNil)))))
def F_is_clock_form : Fd := runF 1 d_is_clock_form
abbrev s_check_clock : Stmt := topS 19
theorem sc_check_clock : FnScope ["value"] ["value"] (defScope s_check_clock) := ⟨rfl, rfl, rfl, by decide +kernel, rfl, by decide +kernel, by decide +kernel⟩
def d_check_clock : DS := (dIf (tNot1 (tOf (eCall 1 F_is_clock_form (aCons (dVar 0) aNil)))) dNever dNil)
def F_check_clock : Fd := runF 1 d_check_clock
abbrev s_check_number : Stmt := topS 17
theorem sc_check_number : FnScope ["value", "low", "high"] ["value", "low", "high"] (defScope s_check_number) := ⟨rfl, rfl, rfl, by decide +kernel, rfl, by decide +kernel, by decide +kernel⟩
def d_check_number : DS := (dIf (tNot1 (tOf (eCall 3 F_is_number (aCons (dVar 0) (aCons (dVar 1) (aCons (dVar 2) aNil)))))) dNever dNil)
def F_check_number : Fd := runF 3 d_check_number
abbrev s_check_many : Stmt := topS 18
theorem sc_check_many : FnScope ["value"] ["value"] (defScope s_check_many) := ⟨rfl, rfl, rfl, by decide +kernel, rfl, by decide +kernel, by decide +kernel⟩
def d_check_many : DS := (dExpr (eCall 3 F_check_number (aCons (dVar 0) (aCons (dC (.int 0)) (aCons (dC (.int 24)) aNil)))))
def F_check_many : Fd := runF 1 d_check_many
abbrev s_is_hour : Stmt := topS 7
theorem sc_is_hour : FnScope ["clock", "value"] ["clock", "value"] (defScope s_is_hour) := ⟨rfl, rfl, rfl, by decide +kernel, rfl, by decide +kernel, by decide +kernel⟩
def d_is_hour : DS := (dRet (eCall 3 F_is_number (aCons (dVar 1) (aCons (dC (.int 0)) (aCons (PL.e2 fSubI (dVar 0) (dC (.int 1))) aNil)))))
def F_is_hour : Fd := runF 2 d_is_hour
abbrev s_check_hour_of : Stmt := topS 20
theorem sc_check_hour_of : FnScope ["clock", "value"] ["clock", "value"] (defScope s_check_hour_of) := ⟨rfl, rfl, rfl, by decide +kernel, rfl, by decide +kernel, by decide +kernel⟩
def d_check_hour_of : DS := (dIf (tNot1 (tOf (eCall 2 F_is_hour (aCons (dVar 0) (aCons (dVar 1) aNil))))) dNever dNil)
def F_check_hour_of : Fd := runF 2 d_check_hour_of
abbrev s_check_tallied : Stmt := topS 22
theorem sc_check_tallied : FnScope ["clock", "number", "hour"] ["clock", "number", "hour"] (defScope s_check_tallied) := ⟨rfl, rfl, rfl, by decide +kernel, rfl, by decide +kernel, by decide +kernel⟩
def d_check_tallied : DS := (dSeq (dExpr (eCall 1 F_check_clock (aCons (dVar 0) aNil))) (dSeq (dExpr (eCall 1 F_check_many (aCons (dVar 1) aNil))) (dExpr (eCall 2 F_check_hour_of (aCons (dVar 0) (aCons (dVar 2) aNil))))))
def F_check_tallied : Fd := runF 3 d_check_tallied
abbrev s_just_ways : Stmt := topS 14
theorem sc_just_ways : FnScope ["clock", "row", "many", "found", "hour", "size", "less", "_", "each"] ["clock", "row", "many"] (defScope s_just_ways) := ⟨rfl, rfl, rfl, by decide +kernel, rfl, by decide +kernel, by decide +kernel⟩
def x_just_ways_1 : DE := (PL.e2 fMul (eLst (aCons (dC (.int 0)) aNil)) (dVar 0))
def x_just_ways_2 : DE := (PL.e2 fAdd (PL.e2 fIx (eIxO 3 (dVar 5)) (dVar 8)) (eIxO 6 (PL.e2 fModI (PL.e2 fSubI (dVar 8) (dVar 4)) (dVar 0))))
def b_just_ways_3 : DS := (dSeq (dSet 6 (eIxO 3 (PL.e2 fSubI (dVar 5) (dC (.int 1))))) (dAsg (eLc (iRange1 (aCons (dVar 0) aNil)) (gSet 8) tTrue x_just_ways_2 [8]) (gSub 3 (dVar 5))))
def b_just_ways_4 : DS := (dFor (iRangeD (aCons (dVar 2) (aCons (dC (.int 0)) (aCons (eNeg (dC (.int 1))) aNil)))) (gSet 5) b_just_ways_3)
def d_just_ways : DS := (dSeq (dNest 3 7 (iRange1 (aCons (PL.e2 fAdd (dVar 2) (dC (.int 1))) aNil)) x_just_ways_1) (dSeq (dFor (iOf (dVar 1)) (gSet 4) b_just_ways_4) (dRet (eIxO 3 (dVar 2)))))
def F_just_ways : Fd := runF 9 d_just_ways
abbrev s_lot_number : Stmt := topS 24
theorem sc_lot_number : FnScope ["clock", "size", "hour"] ["clock", "size", "hour"] (defScope s_lot_number) := ⟨rfl, rfl, rfl, by decide +kernel, rfl, by decide +kernel, by decide +kernel⟩
def d_lot_number : DS := (dSeq (dExpr (eCall 3 F_check_tallied (aCons (dVar 0) (aCons (dVar 1) (aCons (dVar 2) aNil))))) (dRet (PL.e2 fIx (eCall 3 F_just_ways (aCons (dVar 0) (aCons (PL.e1 (fRg1 rvT) (dVar 0)) (aCons (dVar 1) aNil)))) (dVar 2))))
def F_lot_number : Fd := runF 3 d_lot_number
abbrev s_rising_ways : Stmt := topS 23
theorem sc_rising_ways : FnScope ["clock", "length", "found", "hour", "size", "less", "_", "each"] ["clock", "length"] (defScope s_rising_ways) := ⟨rfl, rfl, rfl, by decide +kernel, rfl, by decide +kernel, by decide +kernel⟩
def x_rising_ways_1 : DE := (PL.e2 fMul (eLst (aCons (dC (.int 0)) aNil)) (dVar 0))
def x_rising_ways_2 : DE := (PL.e2 fAdd (PL.e2 fIx (eIxO 2 (dVar 4)) (dVar 7)) (eIxO 5 (PL.e2 fModI (PL.e2 fSubI (dVar 7) (dVar 3)) (dVar 0))))
def b_rising_ways_3 : DS := (dSeq (dSet 5 (eIxO 2 (PL.e2 fSubI (dVar 4) (dC (.int 1))))) (dAsg (eLc (iRange1 (aCons (dVar 0) aNil)) (gSet 7) tTrue x_rising_ways_2 [7]) (gSub 2 (dVar 4))))
def b_rising_ways_4 : DS := (dFor (iRange2 (aCons (dC (.int 1)) (aCons (PL.e2 fAdd (dVar 1) (dC (.int 1))) aNil))) (gSet 4) b_rising_ways_3)
def d_rising_ways : DS := (dSeq (dNest 2 6 (iRange1 (aCons (PL.e2 fAdd (dVar 1) (dC (.int 1))) aNil)) x_rising_ways_1) (dSeq (dFor (iRange1 (aCons (dVar 0) aNil)) (gSet 3) b_rising_ways_4) (dRet (eIxO 2 (dVar 1)))))
def F_rising_ways : Fd := runF 8 d_rising_ways
abbrev s_row_number : Stmt := topS 25
theorem sc_row_number : FnScope ["clock", "length", "hour"] ["clock", "length", "hour"] (defScope s_row_number) := ⟨rfl, rfl, rfl, by decide +kernel, rfl, by decide +kernel, by decide +kernel⟩
def d_row_number : DS := (dSeq (dExpr (eCall 3 F_check_tallied (aCons (dVar 0) (aCons (dVar 1) (aCons (dVar 2) aNil))))) (dRet (PL.e2 fIx (eCall 2 F_rising_ways (aCons (dVar 0) (aCons (dVar 1) aNil))) (dVar 2))))
def F_row_number : Fd := runF 3 d_row_number
abbrev s_law_common : Stmt := topS 31
theorem sc_law_common : FnScope ["one", "two"] ["one", "two"] (defScope s_law_common) := ⟨rfl, rfl, rfl, by decide +kernel, rfl, by decide +kernel, by decide +kernel⟩
def b_law_common_1 : DS := (dPut [(0, false), (1, false)] (roCons (dVar 1) (roCons (PL.e2 fModI (eL fInt (aCons (dVar 0) aNil)) (dVar 1)) roNil)))
def d_law_common : DS := (dSeq (dWh (tBl (PL.e2 (fI0 fun i j => .bl (decide (j < i))) (dVar 1) (dC (.int 0)))) b_law_common_1 100) (dRet (dVar 0)))
def F_law_common : Fd := runF 2 d_law_common
abbrev s_law_right : Stmt := topS 33
theorem sc_law_right : FnScope ["urn", "clock", "lots", "rows", "lap", "size", "hour", "told"] ["urn"] (defScope s_law_right) := ⟨rfl, rfl, rfl, by decide +kernel, rfl, by decide +kernel, by decide +kernel⟩
def b_law_right_1 : DS := (dSeq (dSet 5 (eCallU 2 U_law_of 0 (aCons (eLst (aCons (dC (.int 0)) (aCons (dVar 1) (aCons (dC (.int 24)) (aCons (eCallU 2 U_law_take 0 (aCons (dC (.int 25)) aNil)) (aCons (eCallU 2 U_law_take 0 (aCons (PL.e2 fAdd (dVar 1) (dC (.int 1))) aNil)) aNil)))))) aNil))) (dSeq (dSet 6 (eCallU 2 U_law_take 0 (aCons (dVar 1) aNil))) (dSeq (dSet 7 (eLst (aCons (eCall 3 F_lot_number (aCons (dVar 1) (aCons (dVar 5) (aCons (dVar 6) aNil)))) (aCons (eCallK 3 F_lot_number [2, 1, 0] (aCons (dVar 6) (aCons (dVar 5) (aCons (dVar 1) aNil)))) aNil)))) (dSeq (dSet 7 (PL.e2 fAdd (dVar 7) (eLst (aCons (eCall 3 F_row_number (aCons (dVar 1) (aCons (dVar 5) (aCons (dVar 6) aNil)))) (aCons (eCallK 3 F_row_number [2, 1, 0] (aCons (dVar 6) (aCons (dVar 5) (aCons (dVar 1) aNil)))) aNil))))) (dSeq (dIf (tBl (PL.e2 (fEqS true) (eL fRepr (aCons (dVar 7) aNil)) (eL fRepr (aCons (PL.e2 fAdd (PL.e2 fMul (eLst (aCons (PL.e2 fIx (eIxO 2 (dVar 5)) (dVar 6)) aNil)) (dC (.int 2))) (PL.e2 fMul (eLst (aCons (PL.e2 fIx (eIxO 3 (dVar 5)) (dVar 6)) aNil)) (dC (.int 2)))) aNil)))) (dRet (dC (.bl false))) dNil) (dSeq (dIf (tAnd2 (tBl (PL.e2 (fI0 fun i j => .bl (decide (j < i))) (dVar 5) (dC (.int 1)))) (tBl (PL.e2 (fEq true) (eCall 3 F_row_number (aCons (dVar 1) (aCons (dVar 5) (aCons (dC (.int 0)) aNil)))) (eCall 3 F_row_number (aCons (dVar 5) (aCons (dVar 1) (aCons (dC (.int 0)) aNil))))))) (dRet (dC (.bl false))) dNil) (dIf (tAnd2 (tBl (eChain (fI0 fun i j => .bl (decide (i < j))) (fI0 fun i j => .bl (decide (i ≤ j))) (dC (.int 0)) (dVar 5) (dVar 1))) (tBl (PL.e2 (fEq false) (eCall 2 F_law_common (aCons (dVar 1) (aCons (dVar 5) aNil))) (dC (.int 1))))) (dIf (tBl (PL.e2 (fEq true) (eCall 3 F_lot_number (aCons (dVar 1) (aCons (dVar 5) (aCons (dVar 6) aNil)))) (eCall 3 F_lot_number (aCons (dVar 1) (aCons (dVar 5) (aCons (dC (.int 0)) aNil)))))) (dRet (dC (.bl false))) dNil) dNil)))))))
def d_law_right : DS := (dSeq (dSet 1 (eCallU 2 U_law_clock 0 (aCons (dC (.int 24)) aNil))) (dSeq (dPut [(2, false), (3, false)] (roCons (eCall 3 F_law_counted (aCons (dVar 1) (aCons (dC (.int 24)) (aCons (dC (.bl false)) aNil)))) (roCons (eCall 3 F_law_counted (aCons (dVar 1) (aCons (dC (.int 24)) (aCons (dC (.bl true)) aNil)))) roNil))) (dSeq (dFor (iRange1 (aCons (dC (.int 4)) aNil)) (gSet 4) b_law_right_1) (dRet (dC (.bl true))))))
def U_law_right : Fu := runU 8 d_law_right
abbrev s_law_urn : Stmt := topS 27
theorem sc_law_urn : FnScope ["script", "lap", "mixed", "cell", "own"] ["script", "lap"] (defScope s_law_urn) := ⟨rfl, rfl, rfl, by decide +kernel, rfl, by decide +kernel, by decide +kernel⟩
def b_law_urn_1 : DS := (dSet 2 (PL.e2 fModI (eL fInt (aCons (PL.e2 fAdd (PL.e2 fAdd (PL.e2 fMul (dVar 2) (dC (.int 50021))) (PL.e2 fMul (PL.e2 fModI (eL fInt (aCons (dVar 3) aNil)) (dC (.int 2147483477))) (dC (.int 13)))) (dC (.int 41))) aNil)) (dC (.int 2147483629))))
def d_law_urn : DS := (dSeq (dSet 2 (PL.e2 fAdd (dC (.int 547109)) (PL.e2 fMul (dC (.int 8111)) (dVar 1)))) (dSeq (dFor (iOf (eSl (dVar 0) oNone (oSome (dC (.int 9))))) (gSet 3) b_law_urn_1) (dSeq (dSet 4 (eIf (tBl (PL.e2 (fI0 fun i j => .bl (decide (i < j))) (dVar 1) (eL fLen (aCons (dVar 0) aNil)))) (eL fInt (aCons (eIxO 0 (dVar 1)) aNil)) (dC (.int 0)))) (dSeq (dSet 2 (PL.e2 fModI (eL fInt (aCons (PL.e2 fAdd (PL.e2 fAdd (PL.e2 fMul (dVar 2) (dC (.int 59))) (PL.e2 fMul (PL.e2 fModI (eL fInt (aCons (dVar 4) aNil)) (dC (.int 2147483477))) (dC (.int 30029)))) (dC (.int 5))) aNil)) (dC (.int 2147483629)))) (dRet (eLst (aCons (eIf (tOr2 (tBl (PL.e2 (fI0 fun i j => .bl (decide (i < j))) (dVar 4) (dC (.int 0)))) (tBl (PL.e2 (fI0 fun i j => .bl (decide (j ≤ i))) (dVar 4) (PL.e2 fPowI (dC (.int 10)) (dC (.int 15)))))) (eL fAbs (aCons (dVar 4) aNil)) (dC (.int 0))) (aCons (dVar 2) (aCons (dC (.int 0)) aNil)))))))))
def F_law_urn : Fd := runF 5 d_law_urn
abbrev s_law : Stmt := topS 34
theorem sc_law : FnScope ["script", "lap"] ["script"] (defScope s_law) := ⟨rfl, rfl, rfl, by decide +kernel, rfl, by decide +kernel, by decide +kernel⟩
def x_law_1 : DE := (eCallN U_law_right (eCall 2 F_law_urn (aCons (dVar 0) (aCons (dVar 1) aNil))))
def d_law : DS := (dRet (eL fAll (aCons (eLc (iRange1 (aCons (eL fMax2 (aCons (dC (.int 1)) (aCons (eL fMin2 (aCons (eL fLen (aCons (dVar 0) aNil)) (aCons (dC (.int 2)) aNil))) aNil))) aNil)) (gSet 1) tTrue x_law_1 [1]) aNil)))
def F_law : Fd := runF 2 d_law
structure Gs (K : PySem.W.Frag) (mg : Str → Option Value) where
  a_law_take : Addr
  d_law_take : FuncData
  fn_law_take : Fun K "_law_take" "_law_take" s_law_take a_law_take d_law_take
  g_law_take : mg "_law_take" = some (.ref a_law_take)
  a_law_of : Addr
  d_law_of : FuncData
  fn_law_of : Fun K "_law_of" "_law_of" s_law_of a_law_of d_law_of
  g_law_of : mg "_law_of" = some (.ref a_law_of)
  a_law_clock : Addr
  d_law_clock : FuncData
  fn_law_clock : Fun K "_law_clock" "_law_clock" s_law_clock a_law_clock d_law_clock
  g_law_clock : mg "_law_clock" = some (.ref a_law_clock)
  a_law_counted : Addr
  d_law_counted : FuncData
  fn_law_counted : Fun K "_law_counted" "_law_counted" s_law_counted a_law_counted d_law_counted
  g_law_counted : mg "_law_counted" = some (.ref a_law_counted)
  a_is_whole : Addr
  d_is_whole : FuncData
  fn_is_whole : Fun K "is_whole" "is_whole" s_is_whole a_is_whole d_is_whole
  g_is_whole : mg "is_whole" = some (.ref a_is_whole)
  a_is_number : Addr
  d_is_number : FuncData
  fn_is_number : Fun K "is_number" "is_number" s_is_number a_is_number d_is_number
  g_is_number : mg "is_number" = some (.ref a_is_number)
  a_is_clock_form : Addr
  d_is_clock_form : FuncData
  fn_is_clock_form : Fun K "is_clock_form" "is_clock_form" s_is_clock_form a_is_clock_form d_is_clock_form
  g_is_clock_form : mg "is_clock_form" = some (.ref a_is_clock_form)
  a_check_clock : Addr
  d_check_clock : FuncData
  fn_check_clock : Fun K "check_clock" "check_clock" s_check_clock a_check_clock d_check_clock
  g_check_clock : mg "check_clock" = some (.ref a_check_clock)
  a_check_number : Addr
  d_check_number : FuncData
  fn_check_number : Fun K "check_number" "check_number" s_check_number a_check_number d_check_number
  g_check_number : mg "check_number" = some (.ref a_check_number)
  a_check_many : Addr
  d_check_many : FuncData
  fn_check_many : Fun K "check_many" "check_many" s_check_many a_check_many d_check_many
  g_check_many : mg "check_many" = some (.ref a_check_many)
  a_is_hour : Addr
  d_is_hour : FuncData
  fn_is_hour : Fun K "is_hour" "is_hour" s_is_hour a_is_hour d_is_hour
  g_is_hour : mg "is_hour" = some (.ref a_is_hour)
  a_check_hour_of : Addr
  d_check_hour_of : FuncData
  fn_check_hour_of : Fun K "check_hour_of" "check_hour_of" s_check_hour_of a_check_hour_of d_check_hour_of
  g_check_hour_of : mg "check_hour_of" = some (.ref a_check_hour_of)
  a_check_tallied : Addr
  d_check_tallied : FuncData
  fn_check_tallied : Fun K "check_tallied" "check_tallied" s_check_tallied a_check_tallied d_check_tallied
  g_check_tallied : mg "check_tallied" = some (.ref a_check_tallied)
  a_just_ways : Addr
  d_just_ways : FuncData
  fn_just_ways : Fun K "just_ways" "just_ways" s_just_ways a_just_ways d_just_ways
  g_just_ways : mg "just_ways" = some (.ref a_just_ways)
  a_lot_number : Addr
  d_lot_number : FuncData
  fn_lot_number : Fun K "lot_number" "lot_number" s_lot_number a_lot_number d_lot_number
  g_lot_number : mg "lot_number" = some (.ref a_lot_number)
  a_rising_ways : Addr
  d_rising_ways : FuncData
  fn_rising_ways : Fun K "rising_ways" "rising_ways" s_rising_ways a_rising_ways d_rising_ways
  g_rising_ways : mg "rising_ways" = some (.ref a_rising_ways)
  a_row_number : Addr
  d_row_number : FuncData
  fn_row_number : Fun K "row_number" "row_number" s_row_number a_row_number d_row_number
  g_row_number : mg "row_number" = some (.ref a_row_number)
  a_law_common : Addr
  d_law_common : FuncData
  fn_law_common : Fun K "_law_common" "_law_common" s_law_common a_law_common d_law_common
  g_law_common : mg "_law_common" = some (.ref a_law_common)
  a_law_right : Addr
  d_law_right : FuncData
  fn_law_right : Fun K "_law_right" "_law_right" s_law_right a_law_right d_law_right
  g_law_right : mg "_law_right" = some (.ref a_law_right)
  a_law_urn : Addr
  d_law_urn : FuncData
  fn_law_urn : Fun K "_law_urn" "_law_urn" s_law_urn a_law_urn d_law_urn
  g_law_urn : mg "_law_urn" = some (.ref a_law_urn)
  a_law : Addr
  d_law : FuncData
  fn_law : Fun K "law" "law" s_law a_law d_law
  g_law : mg "law" = some (.ref a_law)
  z_divmod : mg "divmod" = none
  z_int : mg "int" = none
  z_len : mg "len" = none
  z_range : mg "range" = none
  z_bool : mg "bool" = none
  z_isinstance : mg "isinstance" = none
  z_tuple : mg "tuple" = none
  z_repr : mg "repr" = none
  z_abs : mg "abs" = none
  z_min : mg "min" = none
  z_max : mg "max" = none
  z_all : mg "all" = none
  c_MOST_CLOCK : ∃ t, mg "MOST_CLOCK" = some (.int 24 t)
  c_LEAST_CLOCK : ∃ t, mg "LEAST_CLOCK" = some (.int 2 t)
  c_MOST_NUMBER : ∃ t, mg "MOST_NUMBER" = some (.int 24 t)
section
variable {P : Program} {w : World} {K : PySem.W.Frag} {mg : Str → Option Value} {base : Heap}
theorem Gs.b_law_take (T : Gs K mg) : Binds K T.d_law_take ["urn", "many"] [] := T.fn_law_take.binds fun _ _ _ _ _ _ us hl => match us, hl with | [_, _], _ => rfl
theorem Gs.b_law_of (T : Gs K mg) : Binds K T.d_law_of ["urn", "some"] [] := T.fn_law_of.binds fun _ _ _ _ _ _ us hl => match us, hl with | [_, _], _ => rfl
theorem Gs.b_law_clock (T : Gs K mg) : Binds K T.d_law_clock ["urn", "most"] [] := T.fn_law_clock.binds fun _ _ _ _ _ _ us hl => match us, hl with | [_, _], _ => rfl
theorem Gs.b_law_counted (T : Gs K mg) : Binds K T.d_law_counted ["clock", "size", "is_row"] [] := T.fn_law_counted.binds fun _ _ _ _ _ _ us hl => match us, hl with | [_, _, _], _ => rfl
theorem Gs.b_is_whole (T : Gs K mg) : Binds K T.d_is_whole ["value"] [] := T.fn_is_whole.binds fun _ _ _ _ _ _ us hl => match us, hl with | [_], _ => rfl
theorem Gs.b_is_number (T : Gs K mg) : Binds K T.d_is_number ["value", "low", "high"] [] := T.fn_is_number.binds fun _ _ _ _ _ _ us hl => match us, hl with | [_, _, _], _ => rfl
theorem Gs.b_is_clock_form (T : Gs K mg) : Binds K T.d_is_clock_form ["value"] [] := T.fn_is_clock_form.binds fun _ _ _ _ _ _ us hl => match us, hl with | [_], _ => rfl
theorem Gs.b_check_clock (T : Gs K mg) : Binds K T.d_check_clock ["value"] [] := T.fn_check_clock.binds fun _ _ _ _ _ _ us hl => match us, hl with | [_], _ => rfl
theorem Gs.b_check_number (T : Gs K mg) : Binds K T.d_check_number ["value", "low", "high"] [] := T.fn_check_number.binds fun _ _ _ _ _ _ us hl => match us, hl with | [_, _, _], _ => rfl
theorem Gs.b_check_many (T : Gs K mg) : Binds K T.d_check_many ["value"] [] := T.fn_check_many.binds fun _ _ _ _ _ _ us hl => match us, hl with | [_], _ => rfl
theorem Gs.b_is_hour (T : Gs K mg) : Binds K T.d_is_hour ["clock", "value"] [] := T.fn_is_hour.binds fun _ _ _ _ _ _ us hl => match us, hl with | [_, _], _ => rfl
theorem Gs.b_check_hour_of (T : Gs K mg) : Binds K T.d_check_hour_of ["clock", "value"] [] := T.fn_check_hour_of.binds fun _ _ _ _ _ _ us hl => match us, hl with | [_, _], _ => rfl
theorem Gs.b_check_tallied (T : Gs K mg) : Binds K T.d_check_tallied ["clock", "number", "hour"] [] := T.fn_check_tallied.binds fun _ _ _ _ _ _ us hl => match us, hl with | [_, _, _], _ => rfl
theorem Gs.b_just_ways (T : Gs K mg) : Binds K T.d_just_ways ["clock", "row", "many"] [] := T.fn_just_ways.binds fun _ _ _ _ _ _ us hl => match us, hl with | [_, _, _], _ => rfl
theorem Gs.b_lot_number (T : Gs K mg) : Binds K T.d_lot_number ["clock", "size", "hour"] [] := T.fn_lot_number.binds fun _ _ _ _ _ _ us hl => match us, hl with | [_, _, _], _ => rfl
theorem Gs.b_rising_ways (T : Gs K mg) : Binds K T.d_rising_ways ["clock", "length"] [] := T.fn_rising_ways.binds fun _ _ _ _ _ _ us hl => match us, hl with | [_, _], _ => rfl
theorem Gs.b_row_number (T : Gs K mg) : Binds K T.d_row_number ["clock", "length", "hour"] [] := T.fn_row_number.binds fun _ _ _ _ _ _ us hl => match us, hl with | [_, _, _], _ => rfl
theorem Gs.b_law_common (T : Gs K mg) : Binds K T.d_law_common ["one", "two"] [] := T.fn_law_common.binds fun _ _ _ _ _ _ us hl => match us, hl with | [_, _], _ => rfl
theorem Gs.b_law_right (T : Gs K mg) : Binds K T.d_law_right ["urn"] [] := T.fn_law_right.binds fun _ _ _ _ _ _ us hl => match us, hl with | [_], _ => rfl
theorem Gs.b_law_urn (T : Gs K mg) : Binds K T.d_law_urn ["script", "lap"] [] := T.fn_law_urn.binds fun _ _ _ _ _ _ us hl => match us, hl with | [_, _], _ => rfl
theorem Gs.b_law (T : Gs K mg) : Binds K T.d_law ["script"] [] := T.fn_law.binds fun _ _ _ _ _ _ us hl => match us, hl with | [_], _ => rfl
theorem ok_law_take (T : Gs K mg) : FnG P w K mg base 1 T.a_law_take T.d_law_take ["urn", "many"] (spU K mg 2 U_law_take) := fn_U T.fn_law_take sc_law_take fun cdv A outer s H E hr hG =>
  (ss_cons (s_if (t_gt (e_ixO (pv 0) e_i) e_i)
  (ss_cons (s_asg (e_divmod T.z_divmod (a_cons (e_ixO (pv 0) e_i) (a_cons (ex_var (pv 1)) a_nil))) (g_tup rfl (gs_cons (g_sub (pv 0) e_i) (gs_cons (g_name (pg_name (i := 2) sc_law_take.nd rfl (by first | exact Or.inl rfl | exact Or.inr rfl))) gs_nil))))
  (ss_one (s_ret (ex_var (pv 2)))))
  ss_nil)
  (ss_cons (s_asg (e_add (e_ixO (pv 0) e_i) e_i) (g_sub (pv 0) e_i))
  (ss_cons (s_set (i := 3) sc_law_take.nd rfl (by first | exact Or.inl rfl | exact Or.inr rfl) (e_mod (e_int T.z_int (a_cons (e_add (e_mul (e_ixO (pv 0) e_i) e_i) (e_mul e_i (e_ixO (pv 0) e_i))) a_nil)) e_i))
  (ss_cons (s_asg (e_mod (e_int T.z_int (a_cons (e_add (e_mul (ex_var (pv 3)) (e_add (e_mod (e_int T.z_int (a_cons (ex_var (pv 3)) a_nil)) e_i) e_i)) (e_mul e_i (e_ixO (pv 0) e_i))) a_nil)) e_i) (g_sub (pv 0) e_i))
  (ss_one (s_ret (e_mod (e_int T.z_int (a_cons (e_div (e_ixO (pv 0) e_i) e_i) a_nil)) (ex_var (pv 1)))))))))
theorem ok_law_of (T : Gs K mg) : FnG P w K mg base 2 T.a_law_of T.d_law_of ["urn", "some"] (spU K mg 2 U_law_of) := fn_U T.fn_law_of sc_law_of fun cdv A outer s H E hr hG =>
  (ss_one (s_ret (e_ixO (pv 1) (e_callU ((ok_law_take T).mono (by decide)) hr hG (by rfl) T.g_law_take T.fn_law_take.kp T.b_law_take (pv 0) (a_cons (e_len T.z_len (a_cons (ex_var (pv 1)) a_nil)) a_nil)))))
theorem ok_law_clock (T : Gs K mg) : FnG P w K mg base 3 T.a_law_clock T.d_law_clock ["urn", "most"] (spU K mg 2 U_law_clock) := fn_U T.fn_law_clock sc_law_clock fun cdv A outer s H E hr hG =>
  (ss_one (s_ret (e_callU ((ok_law_of T).mono (by decide)) hr hG (by rfl) T.g_law_of T.fn_law_of.kp T.b_law_of (pv 0) (a_cons (PL.e_lst (a_cons e_i (a_cons (ex_var (pv 1)) (a_cons (e_add e_i (e_callU ((ok_law_take T).mono (by decide)) hr hG (by rfl) T.g_law_take T.fn_law_take.kp T.b_law_take (pv 0) (a_cons (e_sub (ex_var (pv 1)) e_i) a_nil))) (a_cons (e_add e_i (e_callU ((ok_law_take T).mono (by decide)) hr hG (by rfl) T.g_law_take T.fn_law_take.kp T.b_law_take (pv 0) (a_cons (e_sub (ex_var (pv 1)) e_i) a_nil))) a_nil))))) a_nil))))
theorem ok_law_counted (T : Gs K mg) : FnG P w K mg base 1 T.a_law_counted T.d_law_counted ["clock", "size", "is_row"] (spP K mg 3 F_law_counted) := fn_P T.fn_law_counted sc_law_counted fun cdv A outer s H E hr hG =>
  (ss_cons (s_setO (i := 3) sc_law_counted.nd rfl (by first | exact Or.inl rfl | exact Or.inr rfl) (e_add (PL.e_lst (a_cons (e_add (PL.e_lst (a_cons e_i a_nil)) (e_mul (PL.e_lst (a_cons e_i a_nil)) (e_sub (ex_var (pv 0)) e_i))) a_nil)) (e_lc (ts := [8]) (own := [("lap", 8)]) rfl sc_law_counted.nd (i_range1 (by rfl) T.z_range (a_cons (ex_var (pv 1)) a_nil)) (blkOk_by (own := [("lap", 8)]) (N := ["clock", "size", "is_row", "rows", "hour", "old", "many", "less", "lap", "k"]) (sc := defScope s_law_counted) (by decide +kernel)) (fun _ _ _ _ _ => (g_name (pg_name (i := 8) sc_law_counted.nd rfl (by first | exact Or.inl rfl | exact Or.inr rfl)))) (fun _ _ _ _ _ => ts_nil) (fun _ _ _ _ _ => (e_mul (PL.e_lst (a_cons e_i a_nil)) (ex_var (pv 0)))))))
  (ss_cons (s_for (passes_of rfl) rfl (i_range1 (by rfl) T.z_range (a_cons (ex_var (pv 0)) a_nil)) (g_name (pg_name (i := 4) sc_law_counted.nd rfl (by first | exact Or.inl rfl | exact Or.inr rfl)))
  (ss_cons (s_set (i := 5) sc_law_counted.nd rfl (by first | exact Or.inl rfl | exact Or.inr rfl) (ex_var (pv 3)))
  (ss_cons (s_setO (i := 3) sc_law_counted.nd rfl (by first | exact Or.inl rfl | exact Or.inr rfl) (PL.e_lst (a_cons (e_ixO (pv 5) e_i) a_nil)))
  (ss_one (s_for (passes_of rfl) rfl (i_range2 (by rfl) T.z_range (a_cons e_i (a_cons (e_add (ex_var (pv 1)) e_i) a_nil))) (g_name (pg_name (i := 6) sc_law_counted.nd rfl (by first | exact Or.inl rfl | exact Or.inr rfl)))
  (ss_cons (s_set (i := 7) sc_law_counted.nd rfl (by first | exact Or.inl rfl | exact Or.inr rfl) (e_if (t_val (ex_var (pv 2))) (e_ixO (pv 3) (e_sub (ex_var (pv 6)) e_i)) (e_ixO (pv 5) (e_sub (ex_var (pv 6)) e_i))))
  (ss_one (s_app (pv 3) (e_lc (ts := [9]) (own := [("k", 9)]) rfl sc_law_counted.nd (i_range1 (by rfl) T.z_range (a_cons (ex_var (pv 0)) a_nil)) (blkOk_by (own := [("k", 9)]) (N := ["clock", "size", "is_row", "rows", "hour", "old", "many", "less", "lap", "k"]) (sc := defScope s_law_counted) (by decide +kernel)) (fun _ _ _ _ _ => (g_name (pg_name (i := 9) sc_law_counted.nd rfl (by first | exact Or.inl rfl | exact Or.inr rfl)))) (fun _ _ _ _ _ => ts_nil) (fun _ _ _ _ _ => (e_add (e_ix (e_ixO (pv 5) (ex_var (pv 6))) (ex_var (pv 9))) (e_ixO (pv 7) (e_mod (e_int T.z_int (a_cons (e_sub (ex_var (pv 9)) (ex_var (pv 4))) a_nil)) (ex_var (pv 0)))))))))))))))
  (ss_one (s_ret (ex_var (pv 3))))))
theorem ok_is_whole (T : Gs K mg) : FnG P w K mg base 1 T.a_is_whole T.d_is_whole ["value"] (spP K mg 1 F_is_whole) := fn_P T.fn_is_whole sc_is_whole fun cdv A outer s H E hr hG =>
  (ss_one (s_ret (e_and (e_isi T.z_isinstance (a_cons (ex_var (pv 0)) (a_cons (e_bty (by rfl) T.z_int bb_int) a_nil))) (e_one (PL.e_not (e_isi T.z_isinstance (a_cons (ex_var (pv 0)) (a_cons (e_bty (by rfl) T.z_bool bb_bool) a_nil))))))))
theorem ok_is_number (T : Gs K mg) : FnG P w K mg base 2 T.a_is_number T.d_is_number ["value", "low", "high"] (spP K mg 3 F_is_number) := fn_P T.fn_is_number sc_is_number fun cdv A outer s H E hr hG =>
  (ss_cons (s_if (t_w (w_or (t_not (t_val (PL.e_call (takes_of rfl rfl rfl rfl) ((ok_is_whole T).mono (by decide)) hr hG (by rfl) T.g_is_whole T.fn_is_whole.kp T.b_is_whole (a_cons (ex_var (pv 0)) a_nil)))) (w_or1 (t_w (w_and (t_isnot (ex_var (pv 1)) e_n) (w_and1 (t_lt (ex_var (pv 0)) (ex_var (pv 1)))))))))
  (ss_one (s_ret e_b))
  ss_nil)
  (ss_one (s_ret (e_or (e_is (ex_var (pv 2)) e_n) (e_one (e_le (ex_var (pv 0)) (ex_var (pv 2))))))))
theorem ok_is_clock_form (T : Gs K mg) : FnG P w K mg base 3 T.a_is_clock_form T.d_is_clock_form ["value"] (spP K mg 1 F_is_clock_form) := fn_P T.fn_is_clock_form sc_is_clock_form fun cdv A outer s H E hr hG =>
  (ss_one (s_ret (PL.e_call (takes_of rfl rfl rfl rfl) ((ok_is_number T).mono (by decide)) hr hG (by rfl) T.g_is_number T.fn_is_number.kp T.b_is_number (a_cons (ex_var (pv 0)) (a_cons (e_gint (by rfl) T.c_LEAST_CLOCK) (a_cons (e_gint (by rfl) T.c_MOST_CLOCK) a_nil))))))
theorem ok_check_clock (T : Gs K mg) : FnG P w K mg base 4 T.a_check_clock T.d_check_clock ["value"] (spP K mg 1 F_check_clock) := fn_P T.fn_check_clock sc_check_clock fun cdv A outer s H E hr hG =>
  (ss_one (s_if (t_not (t_val (PL.e_call (takes_of rfl rfl rfl rfl) ((ok_is_clock_form T).mono (by decide)) hr hG (by rfl) T.g_is_clock_form T.fn_is_clock_form.kp T.b_is_clock_form (a_cons (ex_var (pv 0)) a_nil))))
  (ss_one sx_never)
  ss_nil))
theorem ok_check_number (T : Gs K mg) : FnG P w K mg base 3 T.a_check_number T.d_check_number ["value", "low", "high"] (spP K mg 3 F_check_number) := fn_P T.fn_check_number sc_check_number fun cdv A outer s H E hr hG =>
  (ss_one (s_if (t_not (t_val (PL.e_call (takes_of rfl rfl rfl rfl) ((ok_is_number T).mono (by decide)) hr hG (by rfl) T.g_is_number T.fn_is_number.kp T.b_is_number (a_cons (ex_var (pv 0)) (a_cons (ex_var (pv 1)) (a_cons (ex_var (pv 2)) a_nil))))))
  (ss_one sx_never)
  ss_nil))
theorem ok_check_many (T : Gs K mg) : FnG P w K mg base 4 T.a_check_many T.d_check_many ["value"] (spP K mg 1 F_check_many) := fn_P T.fn_check_many sc_check_many fun cdv A outer s H E hr hG =>
  (ss_one (s_expr (PL.e_call (takes_of rfl rfl rfl rfl) ((ok_check_number T).mono (by decide)) hr hG (by rfl) T.g_check_number T.fn_check_number.kp T.b_check_number (a_cons (ex_var (pv 0)) (a_cons e_i (a_cons (e_gint (by rfl) T.c_MOST_NUMBER) a_nil))))))
theorem ok_is_hour (T : Gs K mg) : FnG P w K mg base 3 T.a_is_hour T.d_is_hour ["clock", "value"] (spP K mg 2 F_is_hour) := fn_P T.fn_is_hour sc_is_hour fun cdv A outer s H E hr hG =>
  (ss_one (s_ret (PL.e_call (takes_of rfl rfl rfl rfl) ((ok_is_number T).mono (by decide)) hr hG (by rfl) T.g_is_number T.fn_is_number.kp T.b_is_number (a_cons (ex_var (pv 1)) (a_cons e_i (a_cons (e_sub (ex_var (pv 0)) e_i) a_nil))))))
theorem ok_check_hour_of (T : Gs K mg) : FnG P w K mg base 4 T.a_check_hour_of T.d_check_hour_of ["clock", "value"] (spP K mg 2 F_check_hour_of) := fn_P T.fn_check_hour_of sc_check_hour_of fun cdv A outer s H E hr hG =>
  (ss_one (s_if (t_not (t_val (PL.e_call (takes_of rfl rfl rfl rfl) ((ok_is_hour T).mono (by decide)) hr hG (by rfl) T.g_is_hour T.fn_is_hour.kp T.b_is_hour (a_cons (ex_var (pv 0)) (a_cons (ex_var (pv 1)) a_nil)))))
  (ss_one sx_never)
  ss_nil))
theorem ok_check_tallied (T : Gs K mg) : FnG P w K mg base 5 T.a_check_tallied T.d_check_tallied ["clock", "number", "hour"] (spP K mg 3 F_check_tallied) := fn_P T.fn_check_tallied sc_check_tallied fun cdv A outer s H E hr hG =>
  (ss_cons (s_expr (PL.e_call (takes_of rfl rfl rfl rfl) ((ok_check_clock T).mono (by decide)) hr hG (by rfl) T.g_check_clock T.fn_check_clock.kp T.b_check_clock (a_cons (ex_var (pv 0)) a_nil)))
  (ss_cons (s_expr (PL.e_call (takes_of rfl rfl rfl rfl) ((ok_check_many T).mono (by decide)) hr hG (by rfl) T.g_check_many T.fn_check_many.kp T.b_check_many (a_cons (ex_var (pv 1)) a_nil)))
  (ss_one (s_expr (PL.e_call (takes_of rfl rfl rfl rfl) ((ok_check_hour_of T).mono (by decide)) hr hG (by rfl) T.g_check_hour_of T.fn_check_hour_of.kp T.b_check_hour_of (a_cons (ex_var (pv 0)) (a_cons (ex_var (pv 2)) a_nil)))))))
theorem ok_just_ways (T : Gs K mg) : FnG P w K mg base 1 T.a_just_ways T.d_just_ways ["clock", "row", "many"] (spP K mg 3 F_just_ways) := fn_P T.fn_just_ways sc_just_ways fun cdv A outer s H E hr hG =>
  (ss_cons2 (ss_nest (i := 3) (j := 7) (own := [("_", 7)]) sc_just_ways.nd rfl (by first | exact Or.inl rfl | exact Or.inr rfl) rfl (i_range1 (by rfl) T.z_range (a_cons (e_add (ex_var (pv 2)) e_i) a_nil)) (blkOk_by (own := [("_", 7)]) (N := ["clock", "row", "many", "found", "hour", "size", "less", "_", "each"]) (sc := defScope s_just_ways) (by decide +kernel)) (fun _ _ _ _ _ => pg_name (i := 7) sc_just_ways.nd rfl (by first | exact Or.inl rfl | exact Or.inr rfl)) (fun _ _ _ _ _ => (e_mul (PL.e_lst (a_cons e_i a_nil)) (ex_var (pv 0)))) (pv 3))
  (ss_cons (s_for (passes_of rfl) rfl (i_seq (ex_var (pv 1))) (g_name (pg_name (i := 4) sc_just_ways.nd rfl (by first | exact Or.inl rfl | exact Or.inr rfl)))
  (ss_one (s_for (passes_of rfl) rfl (i_rangeD (by rfl) T.z_range (a_cons (ex_var (pv 2)) (a_cons e_i (a_cons (e_neg e_i) a_nil)))) (g_name (pg_name (i := 5) sc_just_ways.nd rfl (by first | exact Or.inl rfl | exact Or.inr rfl)))
  (ss_cons (s_set (i := 6) sc_just_ways.nd rfl (by first | exact Or.inl rfl | exact Or.inr rfl) (e_ixO (pv 3) (e_sub (ex_var (pv 5)) e_i)))
  (ss_one (s_asg (e_lc (ts := [8]) (own := [("each", 8)]) rfl sc_just_ways.nd (i_range1 (by rfl) T.z_range (a_cons (ex_var (pv 0)) a_nil)) (blkOk_by (own := [("each", 8)]) (N := ["clock", "row", "many", "found", "hour", "size", "less", "_", "each"]) (sc := defScope s_just_ways) (by decide +kernel)) (fun _ _ _ _ _ => (g_name (pg_name (i := 8) sc_just_ways.nd rfl (by first | exact Or.inl rfl | exact Or.inr rfl)))) (fun _ _ _ _ _ => ts_nil) (fun _ _ _ _ _ => (e_add (e_ix (e_ixO (pv 3) (ex_var (pv 5))) (ex_var (pv 8))) (e_ixO (pv 6) (e_mod (e_sub (ex_var (pv 8)) (ex_var (pv 4))) (ex_var (pv 0))))))) (g_sub (pv 3) (ex_var (pv 5)))))))))
  (ss_one (s_ret (e_ixO (pv 3) (ex_var (pv 2)))))))
theorem ok_lot_number (T : Gs K mg) : FnG P w K mg base 6 T.a_lot_number T.d_lot_number ["clock", "size", "hour"] (spP K mg 3 F_lot_number) := fn_P T.fn_lot_number sc_lot_number fun cdv A outer s H E hr hG =>
  (ss_cons (s_expr (PL.e_call (takes_of rfl rfl rfl rfl) ((ok_check_tallied T).mono (by decide)) hr hG (by rfl) T.g_check_tallied T.fn_check_tallied.kp T.b_check_tallied (a_cons (ex_var (pv 0)) (a_cons (ex_var (pv 1)) (a_cons (ex_var (pv 2)) a_nil)))))
  (ss_one (s_ret (e_ix (PL.e_call (takes_of rfl rfl rfl rfl) ((ok_just_ways T).mono (by decide)) hr hG (by rfl) T.g_just_ways T.fn_just_ways.kp T.b_just_ways (a_cons (ex_var (pv 0)) (a_cons (e_tupRg1 rfl (by rfl) T.z_tuple (by rfl) T.z_range (ex_var (pv 0))) (a_cons (ex_var (pv 1)) a_nil)))) (ex_var (pv 2))))))
theorem ok_rising_ways (T : Gs K mg) : FnG P w K mg base 1 T.a_rising_ways T.d_rising_ways ["clock", "length"] (spP K mg 2 F_rising_ways) := fn_P T.fn_rising_ways sc_rising_ways fun cdv A outer s H E hr hG =>
  (ss_cons2 (ss_nest (i := 2) (j := 6) (own := [("_", 6)]) sc_rising_ways.nd rfl (by first | exact Or.inl rfl | exact Or.inr rfl) rfl (i_range1 (by rfl) T.z_range (a_cons (e_add (ex_var (pv 1)) e_i) a_nil)) (blkOk_by (own := [("_", 6)]) (N := ["clock", "length", "found", "hour", "size", "less", "_", "each"]) (sc := defScope s_rising_ways) (by decide +kernel)) (fun _ _ _ _ _ => pg_name (i := 6) sc_rising_ways.nd rfl (by first | exact Or.inl rfl | exact Or.inr rfl)) (fun _ _ _ _ _ => (e_mul (PL.e_lst (a_cons e_i a_nil)) (ex_var (pv 0)))) (pv 2))
  (ss_cons (s_for (passes_of rfl) rfl (i_range1 (by rfl) T.z_range (a_cons (ex_var (pv 0)) a_nil)) (g_name (pg_name (i := 3) sc_rising_ways.nd rfl (by first | exact Or.inl rfl | exact Or.inr rfl)))
  (ss_one (s_for (passes_of rfl) rfl (i_range2 (by rfl) T.z_range (a_cons e_i (a_cons (e_add (ex_var (pv 1)) e_i) a_nil))) (g_name (pg_name (i := 4) sc_rising_ways.nd rfl (by first | exact Or.inl rfl | exact Or.inr rfl)))
  (ss_cons (s_set (i := 5) sc_rising_ways.nd rfl (by first | exact Or.inl rfl | exact Or.inr rfl) (e_ixO (pv 2) (e_sub (ex_var (pv 4)) e_i)))
  (ss_one (s_asg (e_lc (ts := [7]) (own := [("each", 7)]) rfl sc_rising_ways.nd (i_range1 (by rfl) T.z_range (a_cons (ex_var (pv 0)) a_nil)) (blkOk_by (own := [("each", 7)]) (N := ["clock", "length", "found", "hour", "size", "less", "_", "each"]) (sc := defScope s_rising_ways) (by decide +kernel)) (fun _ _ _ _ _ => (g_name (pg_name (i := 7) sc_rising_ways.nd rfl (by first | exact Or.inl rfl | exact Or.inr rfl)))) (fun _ _ _ _ _ => ts_nil) (fun _ _ _ _ _ => (e_add (e_ix (e_ixO (pv 2) (ex_var (pv 4))) (ex_var (pv 7))) (e_ixO (pv 5) (e_mod (e_sub (ex_var (pv 7)) (ex_var (pv 3))) (ex_var (pv 0))))))) (g_sub (pv 2) (ex_var (pv 4)))))))))
  (ss_one (s_ret (e_ixO (pv 2) (ex_var (pv 1)))))))
theorem ok_row_number (T : Gs K mg) : FnG P w K mg base 6 T.a_row_number T.d_row_number ["clock", "length", "hour"] (spP K mg 3 F_row_number) := fn_P T.fn_row_number sc_row_number fun cdv A outer s H E hr hG =>
  (ss_cons (s_expr (PL.e_call (takes_of rfl rfl rfl rfl) ((ok_check_tallied T).mono (by decide)) hr hG (by rfl) T.g_check_tallied T.fn_check_tallied.kp T.b_check_tallied (a_cons (ex_var (pv 0)) (a_cons (ex_var (pv 1)) (a_cons (ex_var (pv 2)) a_nil)))))
  (ss_one (s_ret (e_ix (PL.e_call (takes_of rfl rfl rfl rfl) ((ok_rising_ways T).mono (by decide)) hr hG (by rfl) T.g_rising_ways T.fn_rising_ways.kp T.b_rising_ways (a_cons (ex_var (pv 0)) (a_cons (ex_var (pv 1)) a_nil))) (ex_var (pv 2))))))
theorem ok_law_common (T : Gs K mg) : FnG P w K mg base 1 T.a_law_common T.d_law_common ["one", "two"] (spP K mg 2 F_law_common) := fn_P T.fn_law_common sc_law_common fun cdv A outer s H E hr hG =>
  (ss_cons (s_while 100 (passes_of rfl) (t_gt (ex_var (pv 1)) e_i)
  (ss_one (s_par2 (oi := false) (oj := false) (i := 0) (j := 1) rfl sc_law_common.nd rfl rfl (by decide) rfl rfl (ro_cons (ex_var (pv 1)) (ro_cons (e_mod (e_int T.z_int (a_cons (ex_var (pv 0)) a_nil)) (ex_var (pv 1))) ro_nil)) (by rfl))))
  (ss_one (s_ret (ex_var (pv 0)))))
theorem ok_law_right (T : Gs K mg) : FnG P w K mg base 7 T.a_law_right T.d_law_right ["urn"] (spU K mg 1 U_law_right) := fn_U T.fn_law_right sc_law_right fun cdv A outer s H E hr hG =>
  (ss_cons (s_set (i := 1) sc_law_right.nd rfl (by first | exact Or.inl rfl | exact Or.inr rfl) (e_callU ((ok_law_clock T).mono (by decide)) hr hG (by rfl) T.g_law_clock T.fn_law_clock.kp T.b_law_clock (pv 0) (a_cons e_i a_nil)))
  (ss_cons (s_par2 (oi := false) (oj := false) (i := 2) (j := 3) rfl sc_law_right.nd rfl rfl (by decide) rfl rfl (ro_cons (PL.e_call (takes_of rfl rfl rfl rfl) ((ok_law_counted T).mono (by decide)) hr hG (by rfl) T.g_law_counted T.fn_law_counted.kp T.b_law_counted (a_cons (ex_var (pv 1)) (a_cons e_i (a_cons e_b a_nil)))) (ro_cons (PL.e_call (takes_of rfl rfl rfl rfl) ((ok_law_counted T).mono (by decide)) hr hG (by rfl) T.g_law_counted T.fn_law_counted.kp T.b_law_counted (a_cons (ex_var (pv 1)) (a_cons e_i (a_cons e_b a_nil)))) ro_nil)) (by rfl))
  (ss_cons (s_for (passes_of rfl) rfl (i_range1 (by rfl) T.z_range (a_cons e_i a_nil)) (g_name (pg_name (i := 4) sc_law_right.nd rfl (by first | exact Or.inl rfl | exact Or.inr rfl)))
  (ss_cons (s_set (i := 5) sc_law_right.nd rfl (by first | exact Or.inl rfl | exact Or.inr rfl) (e_callU ((ok_law_of T).mono (by decide)) hr hG (by rfl) T.g_law_of T.fn_law_of.kp T.b_law_of (pv 0) (a_cons (PL.e_lst (a_cons e_i (a_cons (ex_var (pv 1)) (a_cons e_i (a_cons (e_callU ((ok_law_take T).mono (by decide)) hr hG (by rfl) T.g_law_take T.fn_law_take.kp T.b_law_take (pv 0) (a_cons e_i a_nil)) (a_cons (e_callU ((ok_law_take T).mono (by decide)) hr hG (by rfl) T.g_law_take T.fn_law_take.kp T.b_law_take (pv 0) (a_cons (e_add (ex_var (pv 1)) e_i) a_nil)) a_nil)))))) a_nil)))
  (ss_cons (s_set (i := 6) sc_law_right.nd rfl (by first | exact Or.inl rfl | exact Or.inr rfl) (e_callU ((ok_law_take T).mono (by decide)) hr hG (by rfl) T.g_law_take T.fn_law_take.kp T.b_law_take (pv 0) (a_cons (ex_var (pv 1)) a_nil)))
  (ss_cons (s_set (i := 7) sc_law_right.nd rfl (by first | exact Or.inl rfl | exact Or.inr rfl) (PL.e_lst (a_cons (PL.e_call (takes_of rfl rfl rfl rfl) ((ok_lot_number T).mono (by decide)) hr hG (by rfl) T.g_lot_number T.fn_lot_number.kp T.b_lot_number (a_cons (ex_var (pv 1)) (a_cons (ex_var (pv 5)) (a_cons (ex_var (pv 6)) a_nil)))) (a_cons (e_callK (π := [2, 1, 0]) (takes_of rfl rfl rfl rfl) ((ok_lot_number T).mono (by decide)) hr hG (by rfl) T.g_lot_number T.fn_lot_number.kp (kwB_of (ks := ["hour", "size", "clock"]) (π := [2, 1, 0]) T.fn_lot_number fun _ _ _ _ _ _ ws hl => match ws, hl with | [_, _, _], _ => rfl) (k_cons (ex_var (pv 6)) (k_cons (ex_var (pv 5)) (k_cons (ex_var (pv 1)) k_nil)))) a_nil))))
  (ss_cons (s_set (i := 7) sc_law_right.nd rfl (by first | exact Or.inl rfl | exact Or.inr rfl) (e_add (ex_var (pv 7)) (PL.e_lst (a_cons (PL.e_call (takes_of rfl rfl rfl rfl) ((ok_row_number T).mono (by decide)) hr hG (by rfl) T.g_row_number T.fn_row_number.kp T.b_row_number (a_cons (ex_var (pv 1)) (a_cons (ex_var (pv 5)) (a_cons (ex_var (pv 6)) a_nil)))) (a_cons (e_callK (π := [2, 1, 0]) (takes_of rfl rfl rfl rfl) ((ok_row_number T).mono (by decide)) hr hG (by rfl) T.g_row_number T.fn_row_number.kp (kwB_of (ks := ["hour", "length", "clock"]) (π := [2, 1, 0]) T.fn_row_number fun _ _ _ _ _ _ ws hl => match ws, hl with | [_, _, _], _ => rfl) (k_cons (ex_var (pv 6)) (k_cons (ex_var (pv 5)) (k_cons (ex_var (pv 1)) k_nil)))) a_nil)))))
  (ss_cons (s_if (t_neS (e_repr hG hr.units T.z_repr (a_cons (ex_var (pv 7)) a_nil)) (e_repr hG hr.units T.z_repr (a_cons (e_add (e_mul (PL.e_lst (a_cons (e_ix (e_ixO (pv 2) (ex_var (pv 5))) (ex_var (pv 6))) a_nil)) e_i) (e_mul (PL.e_lst (a_cons (e_ix (e_ixO (pv 3) (ex_var (pv 5))) (ex_var (pv 6))) a_nil)) e_i)) a_nil)))
  (ss_one (s_ret e_b))
  ss_nil)
  (ss_cons (s_if (t_w (w_and (t_gt (ex_var (pv 5)) e_i) (w_and1 (t_ne hr.units (PL.e_call (takes_of rfl rfl rfl rfl) ((ok_row_number T).mono (by decide)) hr hG (by rfl) T.g_row_number T.fn_row_number.kp T.b_row_number (a_cons (ex_var (pv 1)) (a_cons (ex_var (pv 5)) (a_cons e_i a_nil)))) (PL.e_call (takes_of rfl rfl rfl rfl) ((ok_row_number T).mono (by decide)) hr hG (by rfl) T.g_row_number T.fn_row_number.kp T.b_row_number (a_cons (ex_var (pv 5)) (a_cons (ex_var (pv 1)) (a_cons e_i a_nil))))))))
  (ss_one (s_ret e_b))
  ss_nil)
  (ss_one (s_if (t_w (w_and (t_chain op_lt opp_lt op_le opp_le e_i (ex_var (pv 5)) (ex_var (pv 1))) (w_and1 (t_eq hr.units (PL.e_call (takes_of rfl rfl rfl rfl) ((ok_law_common T).mono (by decide)) hr hG (by rfl) T.g_law_common T.fn_law_common.kp T.b_law_common (a_cons (ex_var (pv 1)) (a_cons (ex_var (pv 5)) a_nil))) e_i))))
  (ss_one (s_if (t_ne hr.units (PL.e_call (takes_of rfl rfl rfl rfl) ((ok_lot_number T).mono (by decide)) hr hG (by rfl) T.g_lot_number T.fn_lot_number.kp T.b_lot_number (a_cons (ex_var (pv 1)) (a_cons (ex_var (pv 5)) (a_cons (ex_var (pv 6)) a_nil)))) (PL.e_call (takes_of rfl rfl rfl rfl) ((ok_lot_number T).mono (by decide)) hr hG (by rfl) T.g_lot_number T.fn_lot_number.kp T.b_lot_number (a_cons (ex_var (pv 1)) (a_cons (ex_var (pv 5)) (a_cons e_i a_nil)))))
  (ss_one (s_ret e_b))
  ss_nil))
  ss_nil)))))))))
  (ss_one (s_ret e_b)))))
theorem ok_law_urn (T : Gs K mg) : FnG P w K mg base 1 T.a_law_urn T.d_law_urn ["script", "lap"] (spP K mg 2 F_law_urn) := fn_P T.fn_law_urn sc_law_urn fun cdv A outer s H E hr hG =>
  (ss_cons (s_set (i := 2) sc_law_urn.nd rfl (by first | exact Or.inl rfl | exact Or.inr rfl) (e_add e_i (e_mul e_i (ex_var (pv 1)))))
  (ss_cons (s_for (passes_of rfl) rfl (i_seq (PL.e_slice (ex_var (pv 0)) o_none (o_some e_i))) (g_name (pg_name (i := 3) sc_law_urn.nd rfl (by first | exact Or.inl rfl | exact Or.inr rfl)))
  (ss_one (s_set (i := 2) sc_law_urn.nd rfl (by first | exact Or.inl rfl | exact Or.inr rfl) (e_mod (e_int T.z_int (a_cons (e_add (e_add (e_mul (ex_var (pv 2)) e_i) (e_mul (e_mod (e_int T.z_int (a_cons (ex_var (pv 3)) a_nil)) e_i) e_i)) e_i) a_nil)) e_i))))
  (ss_cons (s_set (i := 4) sc_law_urn.nd rfl (by first | exact Or.inl rfl | exact Or.inr rfl) (e_if (t_lt (ex_var (pv 1)) (e_len T.z_len (a_cons (ex_var (pv 0)) a_nil))) (e_int T.z_int (a_cons (e_ixO (pv 0) (ex_var (pv 1))) a_nil)) e_i))
  (ss_cons (s_set (i := 2) sc_law_urn.nd rfl (by first | exact Or.inl rfl | exact Or.inr rfl) (e_mod (e_int T.z_int (a_cons (e_add (e_add (e_mul (ex_var (pv 2)) e_i) (e_mul (e_mod (e_int T.z_int (a_cons (ex_var (pv 4)) a_nil)) e_i) e_i)) e_i) a_nil)) e_i))
  (ss_one (s_ret (PL.e_lst (a_cons (e_if (t_w (w_or (t_lt (ex_var (pv 4)) e_i) (w_or1 (t_ge (ex_var (pv 4)) (e_pow e_i e_i))))) (e_abs T.z_abs (a_cons (ex_var (pv 4)) a_nil)) e_i) (a_cons (ex_var (pv 2)) (a_cons e_i a_nil))))))))))
theorem ok_law (T : Gs K mg) : FnG P w K mg base 8 T.a_law T.d_law ["script"] (spP K mg 1 F_law) := fn_P T.fn_law sc_law fun cdv A outer s H E hr hG =>
  (ss_one (s_ret (e_all rfl T.z_all (a_cons (e_lc (ts := [1]) (own := [("lap", 1)]) rfl sc_law.nd (i_range1 (by rfl) T.z_range (a_cons (e_max2 rfl T.z_max (a_cons e_i (a_cons (e_min2 rfl T.z_min (a_cons (e_len T.z_len (a_cons (ex_var (pv 0)) a_nil)) (a_cons e_i a_nil))) a_nil))) a_nil)) (blkOk_by (own := [("lap", 1)]) (N := ["script", "lap"]) (sc := defScope s_law) (by decide +kernel)) (fun _ _ _ _ _ => (g_name (pg_name (i := 1) sc_law.nd rfl (by first | exact Or.inl rfl | exact Or.inr rfl)))) (fun _ _ _ _ _ => ts_nil) (fun _ _ _ _ _ => (e_callN ((ok_law_right T).mono (by decide)) hr hG (by rfl) T.g_law_right T.fn_law_right.kp T.b_law_right (PL.e_call tk0 ((ok_law_urn T).mono (by decide)) hr hG (by rfl) T.g_law_urn T.fn_law_urn.kp T.b_law_urn (a_cons (ex_var (pv 0)) (a_cons (ex_var (pv 1)) a_nil)))))) a_nil))))
end
theorem gs_mk {K : PySem.W.Frag} {h : Heap} {mg : Str → Option Value} (X : K.In h) (G : h.Ns mainGlobals mg)
    {f0 : Addr} {od0 an0 : Option Addr} {sl0 : Array (Option Value)} {oc0 kV0 dc0 pm0 cd0 ct0 : Value} (a0 : PySem.W.nsIn K mainGlobals "_law_take" = some (some (.ref f0))) (l0 : K.lookup f0 = some ⟨oc0, od0, .func (PySem.W.fnOf "_law_take" "_law_take" (defArgs s_law_take) (defBody s_law_take) (defScope s_law_take) .none kV0 dc0 pm0 an0 cd0 ct0), sl0⟩) (c0 : PySem.W.codeIn K cd0 "_law_take" = true) (k0 : PySem.W.keepIn K (.ref f0) = true)
    {f1 : Addr} {od1 an1 : Option Addr} {sl1 : Array (Option Value)} {oc1 kV1 dc1 pm1 cd1 ct1 : Value} (a1 : PySem.W.nsIn K mainGlobals "_law_of" = some (some (.ref f1))) (l1 : K.lookup f1 = some ⟨oc1, od1, .func (PySem.W.fnOf "_law_of" "_law_of" (defArgs s_law_of) (defBody s_law_of) (defScope s_law_of) .none kV1 dc1 pm1 an1 cd1 ct1), sl1⟩) (c1 : PySem.W.codeIn K cd1 "_law_of" = true) (k1 : PySem.W.keepIn K (.ref f1) = true)
    {f2 : Addr} {od2 an2 : Option Addr} {sl2 : Array (Option Value)} {oc2 kV2 dc2 pm2 cd2 ct2 : Value} (a2 : PySem.W.nsIn K mainGlobals "_law_clock" = some (some (.ref f2))) (l2 : K.lookup f2 = some ⟨oc2, od2, .func (PySem.W.fnOf "_law_clock" "_law_clock" (defArgs s_law_clock) (defBody s_law_clock) (defScope s_law_clock) .none kV2 dc2 pm2 an2 cd2 ct2), sl2⟩) (c2 : PySem.W.codeIn K cd2 "_law_clock" = true) (k2 : PySem.W.keepIn K (.ref f2) = true)
    {f3 : Addr} {od3 an3 : Option Addr} {sl3 : Array (Option Value)} {oc3 kV3 dc3 pm3 cd3 ct3 : Value} (a3 : PySem.W.nsIn K mainGlobals "_law_counted" = some (some (.ref f3))) (l3 : K.lookup f3 = some ⟨oc3, od3, .func (PySem.W.fnOf "_law_counted" "_law_counted" (defArgs s_law_counted) (defBody s_law_counted) (defScope s_law_counted) .none kV3 dc3 pm3 an3 cd3 ct3), sl3⟩) (c3 : PySem.W.codeIn K cd3 "_law_counted" = true) (k3 : PySem.W.keepIn K (.ref f3) = true)
    {f4 : Addr} {od4 an4 : Option Addr} {sl4 : Array (Option Value)} {oc4 kV4 dc4 pm4 cd4 ct4 : Value} (a4 : PySem.W.nsIn K mainGlobals "is_whole" = some (some (.ref f4))) (l4 : K.lookup f4 = some ⟨oc4, od4, .func (PySem.W.fnOf "is_whole" "is_whole" (defArgs s_is_whole) (defBody s_is_whole) (defScope s_is_whole) .none kV4 dc4 pm4 an4 cd4 ct4), sl4⟩) (c4 : PySem.W.codeIn K cd4 "is_whole" = true) (k4 : PySem.W.keepIn K (.ref f4) = true)
    {f5 : Addr} {od5 an5 : Option Addr} {sl5 : Array (Option Value)} {oc5 kV5 dc5 pm5 cd5 ct5 : Value} (a5 : PySem.W.nsIn K mainGlobals "is_number" = some (some (.ref f5))) (l5 : K.lookup f5 = some ⟨oc5, od5, .func (PySem.W.fnOf "is_number" "is_number" (defArgs s_is_number) (defBody s_is_number) (defScope s_is_number) .none kV5 dc5 pm5 an5 cd5 ct5), sl5⟩) (c5 : PySem.W.codeIn K cd5 "is_number" = true) (k5 : PySem.W.keepIn K (.ref f5) = true)
    {f6 : Addr} {od6 an6 : Option Addr} {sl6 : Array (Option Value)} {oc6 kV6 dc6 pm6 cd6 ct6 : Value} (a6 : PySem.W.nsIn K mainGlobals "is_clock_form" = some (some (.ref f6))) (l6 : K.lookup f6 = some ⟨oc6, od6, .func (PySem.W.fnOf "is_clock_form" "is_clock_form" (defArgs s_is_clock_form) (defBody s_is_clock_form) (defScope s_is_clock_form) .none kV6 dc6 pm6 an6 cd6 ct6), sl6⟩) (c6 : PySem.W.codeIn K cd6 "is_clock_form" = true) (k6 : PySem.W.keepIn K (.ref f6) = true)
    {f7 : Addr} {od7 an7 : Option Addr} {sl7 : Array (Option Value)} {oc7 kV7 dc7 pm7 cd7 ct7 : Value} (a7 : PySem.W.nsIn K mainGlobals "check_clock" = some (some (.ref f7))) (l7 : K.lookup f7 = some ⟨oc7, od7, .func (PySem.W.fnOf "check_clock" "check_clock" (defArgs s_check_clock) (defBody s_check_clock) (defScope s_check_clock) .none kV7 dc7 pm7 an7 cd7 ct7), sl7⟩) (c7 : PySem.W.codeIn K cd7 "check_clock" = true) (k7 : PySem.W.keepIn K (.ref f7) = true)
    {f8 : Addr} {od8 an8 : Option Addr} {sl8 : Array (Option Value)} {oc8 kV8 dc8 pm8 cd8 ct8 : Value} (a8 : PySem.W.nsIn K mainGlobals "check_number" = some (some (.ref f8))) (l8 : K.lookup f8 = some ⟨oc8, od8, .func (PySem.W.fnOf "check_number" "check_number" (defArgs s_check_number) (defBody s_check_number) (defScope s_check_number) .none kV8 dc8 pm8 an8 cd8 ct8), sl8⟩) (c8 : PySem.W.codeIn K cd8 "check_number" = true) (k8 : PySem.W.keepIn K (.ref f8) = true)
    {f9 : Addr} {od9 an9 : Option Addr} {sl9 : Array (Option Value)} {oc9 kV9 dc9 pm9 cd9 ct9 : Value} (a9 : PySem.W.nsIn K mainGlobals "check_many" = some (some (.ref f9))) (l9 : K.lookup f9 = some ⟨oc9, od9, .func (PySem.W.fnOf "check_many" "check_many" (defArgs s_check_many) (defBody s_check_many) (defScope s_check_many) .none kV9 dc9 pm9 an9 cd9 ct9), sl9⟩) (c9 : PySem.W.codeIn K cd9 "check_many" = true) (k9 : PySem.W.keepIn K (.ref f9) = true)
    {f10 : Addr} {od10 an10 : Option Addr} {sl10 : Array (Option Value)} {oc10 kV10 dc10 pm10 cd10 ct10 : Value} (a10 : PySem.W.nsIn K mainGlobals "is_hour" = some (some (.ref f10))) (l10 : K.lookup f10 = some ⟨oc10, od10, .func (PySem.W.fnOf "is_hour" "is_hour" (defArgs s_is_hour) (defBody s_is_hour) (defScope s_is_hour) .none kV10 dc10 pm10 an10 cd10 ct10), sl10⟩) (c10 : PySem.W.codeIn K cd10 "is_hour" = true) (k10 : PySem.W.keepIn K (.ref f10) = true)
    {f11 : Addr} {od11 an11 : Option Addr} {sl11 : Array (Option Value)} {oc11 kV11 dc11 pm11 cd11 ct11 : Value} (a11 : PySem.W.nsIn K mainGlobals "check_hour_of" = some (some (.ref f11))) (l11 : K.lookup f11 = some ⟨oc11, od11, .func (PySem.W.fnOf "check_hour_of" "check_hour_of" (defArgs s_check_hour_of) (defBody s_check_hour_of) (defScope s_check_hour_of) .none kV11 dc11 pm11 an11 cd11 ct11), sl11⟩) (c11 : PySem.W.codeIn K cd11 "check_hour_of" = true) (k11 : PySem.W.keepIn K (.ref f11) = true)
    {f12 : Addr} {od12 an12 : Option Addr} {sl12 : Array (Option Value)} {oc12 kV12 dc12 pm12 cd12 ct12 : Value} (a12 : PySem.W.nsIn K mainGlobals "check_tallied" = some (some (.ref f12))) (l12 : K.lookup f12 = some ⟨oc12, od12, .func (PySem.W.fnOf "check_tallied" "check_tallied" (defArgs s_check_tallied) (defBody s_check_tallied) (defScope s_check_tallied) .none kV12 dc12 pm12 an12 cd12 ct12), sl12⟩) (c12 : PySem.W.codeIn K cd12 "check_tallied" = true) (k12 : PySem.W.keepIn K (.ref f12) = true)
    {f13 : Addr} {od13 an13 : Option Addr} {sl13 : Array (Option Value)} {oc13 kV13 dc13 pm13 cd13 ct13 : Value} (a13 : PySem.W.nsIn K mainGlobals "just_ways" = some (some (.ref f13))) (l13 : K.lookup f13 = some ⟨oc13, od13, .func (PySem.W.fnOf "just_ways" "just_ways" (defArgs s_just_ways) (defBody s_just_ways) (defScope s_just_ways) .none kV13 dc13 pm13 an13 cd13 ct13), sl13⟩) (c13 : PySem.W.codeIn K cd13 "just_ways" = true) (k13 : PySem.W.keepIn K (.ref f13) = true)
    {f14 : Addr} {od14 an14 : Option Addr} {sl14 : Array (Option Value)} {oc14 kV14 dc14 pm14 cd14 ct14 : Value} (a14 : PySem.W.nsIn K mainGlobals "lot_number" = some (some (.ref f14))) (l14 : K.lookup f14 = some ⟨oc14, od14, .func (PySem.W.fnOf "lot_number" "lot_number" (defArgs s_lot_number) (defBody s_lot_number) (defScope s_lot_number) .none kV14 dc14 pm14 an14 cd14 ct14), sl14⟩) (c14 : PySem.W.codeIn K cd14 "lot_number" = true) (k14 : PySem.W.keepIn K (.ref f14) = true)
    {f15 : Addr} {od15 an15 : Option Addr} {sl15 : Array (Option Value)} {oc15 kV15 dc15 pm15 cd15 ct15 : Value} (a15 : PySem.W.nsIn K mainGlobals "rising_ways" = some (some (.ref f15))) (l15 : K.lookup f15 = some ⟨oc15, od15, .func (PySem.W.fnOf "rising_ways" "rising_ways" (defArgs s_rising_ways) (defBody s_rising_ways) (defScope s_rising_ways) .none kV15 dc15 pm15 an15 cd15 ct15), sl15⟩) (c15 : PySem.W.codeIn K cd15 "rising_ways" = true) (k15 : PySem.W.keepIn K (.ref f15) = true)
    {f16 : Addr} {od16 an16 : Option Addr} {sl16 : Array (Option Value)} {oc16 kV16 dc16 pm16 cd16 ct16 : Value} (a16 : PySem.W.nsIn K mainGlobals "row_number" = some (some (.ref f16))) (l16 : K.lookup f16 = some ⟨oc16, od16, .func (PySem.W.fnOf "row_number" "row_number" (defArgs s_row_number) (defBody s_row_number) (defScope s_row_number) .none kV16 dc16 pm16 an16 cd16 ct16), sl16⟩) (c16 : PySem.W.codeIn K cd16 "row_number" = true) (k16 : PySem.W.keepIn K (.ref f16) = true)
    {f17 : Addr} {od17 an17 : Option Addr} {sl17 : Array (Option Value)} {oc17 kV17 dc17 pm17 cd17 ct17 : Value} (a17 : PySem.W.nsIn K mainGlobals "_law_common" = some (some (.ref f17))) (l17 : K.lookup f17 = some ⟨oc17, od17, .func (PySem.W.fnOf "_law_common" "_law_common" (defArgs s_law_common) (defBody s_law_common) (defScope s_law_common) .none kV17 dc17 pm17 an17 cd17 ct17), sl17⟩) (c17 : PySem.W.codeIn K cd17 "_law_common" = true) (k17 : PySem.W.keepIn K (.ref f17) = true)
    {f18 : Addr} {od18 an18 : Option Addr} {sl18 : Array (Option Value)} {oc18 kV18 dc18 pm18 cd18 ct18 : Value} (a18 : PySem.W.nsIn K mainGlobals "_law_right" = some (some (.ref f18))) (l18 : K.lookup f18 = some ⟨oc18, od18, .func (PySem.W.fnOf "_law_right" "_law_right" (defArgs s_law_right) (defBody s_law_right) (defScope s_law_right) .none kV18 dc18 pm18 an18 cd18 ct18), sl18⟩) (c18 : PySem.W.codeIn K cd18 "_law_right" = true) (k18 : PySem.W.keepIn K (.ref f18) = true)
    {f19 : Addr} {od19 an19 : Option Addr} {sl19 : Array (Option Value)} {oc19 kV19 dc19 pm19 cd19 ct19 : Value} (a19 : PySem.W.nsIn K mainGlobals "_law_urn" = some (some (.ref f19))) (l19 : K.lookup f19 = some ⟨oc19, od19, .func (PySem.W.fnOf "_law_urn" "_law_urn" (defArgs s_law_urn) (defBody s_law_urn) (defScope s_law_urn) .none kV19 dc19 pm19 an19 cd19 ct19), sl19⟩) (c19 : PySem.W.codeIn K cd19 "_law_urn" = true) (k19 : PySem.W.keepIn K (.ref f19) = true)
    {f20 : Addr} {od20 an20 : Option Addr} {sl20 : Array (Option Value)} {oc20 kV20 dc20 pm20 cd20 ct20 : Value} (a20 : PySem.W.nsIn K mainGlobals "law" = some (some (.ref f20))) (l20 : K.lookup f20 = some ⟨oc20, od20, .func (PySem.W.fnOf "law" "law" (defArgs s_law) (defBody s_law) (defScope s_law) .none kV20 dc20 pm20 an20 cd20 ct20), sl20⟩) (c20 : PySem.W.codeIn K cd20 "law" = true) (k20 : PySem.W.keepIn K (.ref f20) = true)
    (z_divmod : PySem.W.nsIn K mainGlobals "divmod" = some none)
    (z_int : PySem.W.nsIn K mainGlobals "int" = some none)
    (z_len : PySem.W.nsIn K mainGlobals "len" = some none)
    (z_range : PySem.W.nsIn K mainGlobals "range" = some none)
    (z_bool : PySem.W.nsIn K mainGlobals "bool" = some none)
    (z_isinstance : PySem.W.nsIn K mainGlobals "isinstance" = some none)
    (z_tuple : PySem.W.nsIn K mainGlobals "tuple" = some none)
    (z_repr : PySem.W.nsIn K mainGlobals "repr" = some none)
    (z_abs : PySem.W.nsIn K mainGlobals "abs" = some none)
    (z_min : PySem.W.nsIn K mainGlobals "min" = some none)
    (z_max : PySem.W.nsIn K mainGlobals "max" = some none)
    (z_all : PySem.W.nsIn K mainGlobals "all" = some none)
    {t_MOST_CLOCK : Tok} (n_MOST_CLOCK : PySem.W.nsIn K mainGlobals "MOST_CLOCK" = some (some (.int 24 t_MOST_CLOCK)))
    {t_LEAST_CLOCK : Tok} (n_LEAST_CLOCK : PySem.W.nsIn K mainGlobals "LEAST_CLOCK" = some (some (.int 2 t_LEAST_CLOCK)))
    {t_MOST_NUMBER : Tok} (n_MOST_NUMBER : PySem.W.nsIn K mainGlobals "MOST_NUMBER" = some (some (.int 24 t_MOST_NUMBER))) :
    ∃ T : Gs K mg, T.a_law = f20 ∧ (∀ (s : Shared) (v : Value), BindsTo s T.d_law ⟨[v], []⟩ [("script", v)]) :=
  ⟨{ a_law_take := f0, d_law_take := _, fn_law_take := fun_mk l0 c0 k0, g_law_take := PySem.W.mg_of X G a0, a_law_of := f1, d_law_of := _, fn_law_of := fun_mk l1 c1 k1, g_law_of := PySem.W.mg_of X G a1, a_law_clock := f2, d_law_clock := _, fn_law_clock := fun_mk l2 c2 k2, g_law_clock := PySem.W.mg_of X G a2, a_law_counted := f3, d_law_counted := _, fn_law_counted := fun_mk l3 c3 k3, g_law_counted := PySem.W.mg_of X G a3, a_is_whole := f4, d_is_whole := _, fn_is_whole := fun_mk l4 c4 k4, g_is_whole := PySem.W.mg_of X G a4, a_is_number := f5, d_is_number := _, fn_is_number := fun_mk l5 c5 k5, g_is_number := PySem.W.mg_of X G a5, a_is_clock_form := f6, d_is_clock_form := _, fn_is_clock_form := fun_mk l6 c6 k6, g_is_clock_form := PySem.W.mg_of X G a6, a_check_clock := f7, d_check_clock := _, fn_check_clock := fun_mk l7 c7 k7, g_check_clock := PySem.W.mg_of X G a7, a_check_number := f8, d_check_number := _, fn_check_number := fun_mk l8 c8 k8, g_check_number := PySem.W.mg_of X G a8, a_check_many := f9, d_check_many := _, fn_check_many := fun_mk l9 c9 k9, g_check_many := PySem.W.mg_of X G a9, a_is_hour := f10, d_is_hour := _, fn_is_hour := fun_mk l10 c10 k10, g_is_hour := PySem.W.mg_of X G a10, a_check_hour_of := f11, d_check_hour_of := _, fn_check_hour_of := fun_mk l11 c11 k11, g_check_hour_of := PySem.W.mg_of X G a11, a_check_tallied := f12, d_check_tallied := _, fn_check_tallied := fun_mk l12 c12 k12, g_check_tallied := PySem.W.mg_of X G a12, a_just_ways := f13, d_just_ways := _, fn_just_ways := fun_mk l13 c13 k13, g_just_ways := PySem.W.mg_of X G a13, a_lot_number := f14, d_lot_number := _, fn_lot_number := fun_mk l14 c14 k14, g_lot_number := PySem.W.mg_of X G a14, a_rising_ways := f15, d_rising_ways := _, fn_rising_ways := fun_mk l15 c15 k15, g_rising_ways := PySem.W.mg_of X G a15, a_row_number := f16, d_row_number := _, fn_row_number := fun_mk l16 c16 k16, g_row_number := PySem.W.mg_of X G a16, a_law_common := f17, d_law_common := _, fn_law_common := fun_mk l17 c17 k17, g_law_common := PySem.W.mg_of X G a17, a_law_right := f18, d_law_right := _, fn_law_right := fun_mk l18 c18 k18, g_law_right := PySem.W.mg_of X G a18, a_law_urn := f19, d_law_urn := _, fn_law_urn := fun_mk l19 c19 k19, g_law_urn := PySem.W.mg_of X G a19, a_law := f20, d_law := _, fn_law := fun_mk l20 c20 k20, g_law := PySem.W.mg_of X G a20, z_divmod := PySem.W.mg_none_of X G z_divmod, z_int := PySem.W.mg_none_of X G z_int, z_len := PySem.W.mg_none_of X G z_len, z_range := PySem.W.mg_none_of X G z_range, z_bool := PySem.W.mg_none_of X G z_bool, z_isinstance := PySem.W.mg_none_of X G z_isinstance, z_tuple := PySem.W.mg_none_of X G z_tuple, z_repr := PySem.W.mg_none_of X G z_repr, z_abs := PySem.W.mg_none_of X G z_abs, z_min := PySem.W.mg_none_of X G z_min, z_max := PySem.W.mg_none_of X G z_max, z_all := PySem.W.mg_none_of X G z_all, c_MOST_CLOCK := ⟨_, PySem.W.mg_of X G n_MOST_CLOCK⟩, c_LEAST_CLOCK := ⟨_, PySem.W.mg_of X G n_LEAST_CLOCK⟩, c_MOST_NUMBER := ⟨_, PySem.W.mg_of X G n_MOST_NUMBER⟩ }, rfl, fun s v => .of_eq rfl⟩
theorem law_mk {l : PySem.W.OpenLaw} {w : World} {K : PySem.W.Frag} {mg : Str → Option Value} {fa : Addr} (hfa : mg "law" = some (.ref fa)) (e : ∃ T : Gs K mg, ∃ fl : Addr, T.a_law = fl ∧ (∀ (s : Shared) (v : Value), BindsTo s T.d_law ⟨[v], []⟩ [("script", v)])) :
    ∃ fd : FuncData, (∀ (s : Shared) (u : Value), BindsTo s fd ⟨[u], []⟩ [("script", u)]) ∧ ∀ base : Heap, K.In base → base.Ns mainGlobals mg → FnG l.prog w K mg base 8 fa fd ["script"] (spP K mg 1 F_law) := by
  obtain ⟨T, fl, e1, hb⟩ := e
  have e2 := hfa.symm.trans T.g_law
  cases e2
  exact ⟨T.d_law, hb, fun base _ _ => ok_law T⟩
end PL
namespace PL
open PySem PySem.Spec PyProof.Rows L2
theorem take_ok {xs : List D} {many : Int} (hu : Urn xs) (h : 0 < many) (h2 : many < 1073741824) : ∃ (k : Int) (ys : List D), U_law_take xs [.int many] = .ok (.val (.int k), ys) ∧ Urn ys ∧ 0 ≤ k ∧ k < many := by
  obtain ⟨a, m, n, rfl⟩ := hu
  by_cases ha : 0 < a
  · refine ⟨a % many, _, runU_ret rfl (σ := _) (ys := _) (by simp [slots, List.replicate, d_law_take, ha, h, h2]; rfl) rfl, ⟨_, _, _, rfl⟩, Int.emod_nonneg _ (by omega), Int.emod_lt_of_pos _ h⟩
  · refine ⟨_ % many, _, runU_ret rfl (σ := _) (ys := _) (by simp [slots, List.replicate, d_law_take, ha, h, h2, bMul_r, bMul_l, bMul_modl, bDiv_of, bPos_of]; first | exact ⟨rfl, rfl⟩ | rfl) rfl, ⟨_, _, _, rfl⟩, Int.emod_nonneg _ (by omega), Int.emod_lt_of_pos _ h⟩
theorem of_ok {xs ds : List D} (hu : Urn xs) (h0 : 0 < ds.length) (h1 : ds.length < 1073741824) : ∃ (d : D) (ys : List D), U_law_of xs [.lst ds] = .ok (.val d, ys) ∧ Urn ys ∧ d ∈ ds := by
  obtain ⟨k, ys, e, hy, k0, k1⟩ := take_ok (many := ds.length) hu (by omega) (by omega)
  have hk : k.toNat < ds.length := by omega
  have e2 : atI ds k = some ds[k.toNat] := atI_ok k0 (List.getElem?_eq_getElem hk)
  exact ⟨ds[k.toNat], ys, runU_ret rfl (σ := _) (by simp [slots, d_law_of, e, e2]; rfl) rfl, hy, List.getElem_mem hk⟩
theorem clock_ok {xs : List D} {top : Int} (hu : Urn xs) (h : 2 ≤ top) (h2 : top < 1000) : ∃ (c : Int) (ys : List D), U_law_clock xs [.int top] = .ok (.val (.int c), ys) ∧ Urn ys ∧ 2 ≤ c ∧ c ≤ top := by
  obtain ⟨a, ys, e1, hy, a0, a1⟩ := take_ok (many := top - 1) hu (by omega) (by omega)
  obtain ⟨b, zs, e3, hz, b0, b1⟩ := take_ok (many := top - 1) hy (by omega) (by omega)
  obtain ⟨d, ws, e4, hw, hm⟩ := of_ok (ds := [.int 2, .int top, .int (2 + a), .int (2 + b)]) hz (by simp) (by simp)
  have hd : ∃ c : Int, d = .int c ∧ 2 ≤ c ∧ c ≤ top := by
    simp only [List.mem_cons, List.not_mem_nil, or_false] at hm
    rcases hm with rfl | rfl | rfl | rfl
    · exact ⟨_, rfl, by omega, by omega⟩
    · exact ⟨_, rfl, by omega, by omega⟩
    · exact ⟨_, rfl, by omega, by omega⟩
    · exact ⟨_, rfl, by omega, by omega⟩
  obtain ⟨c, rfl, c0, c1⟩ := hd
  exact ⟨c, ws, runU_ret rfl (σ := _) (by simp [slots, d_law_clock, e1, e3, e4, most]; rfl) rfl, hw, c0, c1⟩
theorem urn_turn (ns : List Int) (lap m0 c : Int) : ∃ m1 : Int, b_law_urn_1 [.val (.scr ns), .val (.int lap), .val (.int m0), .val (.int c), .un] = .ok (.next [.val (.scr ns), .val (.int lap), .val (.int m1), .val (.int c), .un]) :=
  ⟨_, by simp [b_law_urn_1, bMul_l, bMul_r, bPos_of]; rfl⟩
theorem urn_loop (ns : List Int) (lap : Int) : ∀ (l : List Int) (m0 : Int) (t : SV), t = .un ∨ (∃ d, t = .val d) → ∃ (m : Int) (t' : SV), (t' = .un ∨ ∃ d, t' = .val d) ∧ forGo (gSet 3) b_law_urn_1 (l.map .int) [.val (.scr ns), .val (.int lap), .val (.int m0), t, .un] = .ok (.next [.val (.scr ns), .val (.int lap), .val (.int m), t', .un])
  | [], m0, t, h => ⟨m0, t, h, rfl⟩
  | c :: l, m0, t, h => by
    obtain ⟨m1, e1⟩ := urn_turn ns lap m0 c
    obtain ⟨m, t', ht, e⟩ := urn_loop ns lap l m1 (.val (.int c)) (.inr ⟨_, rfl⟩)
    refine ⟨m, t', ht, ?_⟩
    rw [List.map_cons]
    refine (forGo_cons (s := [.val (.scr ns), .val (.int lap), .val (.int m0), .val (.int c), .un]) ?_ e1).trans e
    rcases h with rfl | ⟨d, rfl⟩ <;> simp
theorem urn_ok {ns : List Int} {lap : Int} (h : 0 ≤ lap) : ∃ ys, F_law_urn [.scr ns, .int lap] = .ok (.own ys) ∧ Urn ys := by
  obtain ⟨m, t, ht, e⟩ := urn_loop ns lap (cutG ns none (some 9)) (547109 + 8111 * lap) .un (.inl rfl)
  have own : ∃ o : Int, ∀ m : Int, (eIf (tBl (PL.e2 (fI0 fun i j => .bl (decide (i < j))) (dVar 1) (eL fLen (aCons (dVar 0) aNil)))) (eL fInt (aCons (eIxO 0 (dVar 1)) aNil)) (dC (.int 0))) [.val (.scr ns), .val (.int lap), .val (.int m), t, .un] = .ok (.val (.int o), [.val (.scr ns), .val (.int lap), .val (.int m), t, .un]) := by
    by_cases hl : lap < ns.length
    · have hk : lap.toNat < ns.length := by omega
      refine ⟨ns[lap.toNat], fun m => ?_⟩
      simp [hl, atI_ok h (List.getElem?_eq_getElem hk)]
    · exact ⟨0, fun m => by simp [hl]⟩
  obtain ⟨o, ho⟩ := own
  have last : ∃ z : Int, ∀ m : Int, (eIf (tOr2 (tBl (PL.e2 (fI0 fun i j => .bl (decide (i < j))) (dVar 4) (dC (.int 0)))) (tBl (PL.e2 (fI0 fun i j => .bl (decide (j ≤ i))) (dVar 4) (PL.e2 fPowI (dC (.int 10)) (dC (.int 15)))))) (eL fAbs (aCons (dVar 4) aNil)) (dC (.int 0))) [.val (.scr ns), .val (.int lap), .val (.int m), t, .val (.int o)] = .ok (.val (.int z), [.val (.scr ns), .val (.int lap), .val (.int m), t, .val (.int o)]) := by
    have hp : bPow 10 15 = true := by decide
    by_cases h1 : o < 0
    · refine ⟨-o, fun m => by simp [h1]⟩
    · by_cases h2 : 1000000000000000 ≤ o
      · exact ⟨o, fun m => by simp [h1, h2, hp]⟩
      · exact ⟨0, fun m => by simp [h1, h2, hp]⟩
  obtain ⟨z, hz⟩ := last
  refine ⟨_, runF_ret rfl (σ := _) (by simp [slots, List.replicate, d_law_urn, bMul_l, bMul_r, bMul_modl, bPos_of, e, most, ho, hz, -ap_eif]; exact ⟨⟨rfl, rfl⟩, rfl⟩), ⟨z, _, _, rfl⟩⟩
/-- the law, from what is right of each urn -/
theorem law_true_of (right : ∀ xs : List D, Urn xs → ∃ ys, U_law_right xs [] = .ok (.val (.bl true), ys)) : LawTrue 63 F_law := by
  intro ns hn
  have turn : ∀ k : Nat, x_law_1 [.val (.scr ns), .val (.int (k : Nat))] = .ok (.val (.bl true), [.val (.scr ns), .val (.int (k : Nat))]) := fun k => by
    obtain ⟨ys, e, hy⟩ := urn_ok (ns := ns) (lap := k) (by omega)
    obtain ⟨zs, e2⟩ := right ys hy
    simp [x_law_1, e, e2]
  have lc : ∀ (j : Int), 0 ≤ j → j ≤ 2 → eLc (iRange1 (aCons (eL fMax2 (aCons (dC (.int 1)) (aCons (eL fMin2 (aCons (eL fLen (aCons (dVar 0) aNil)) (aCons (dC (.int 2)) aNil))) aNil))) aNil)) (gSet 1) tTrue x_law_1 [1] [.val (.scr ns), .un] = .ok (.own ((rangeD 0 1 (if (if (2 : Int) < ns.length then (2 : Int) else ns.length) > 1 then (if (2 : Int) < ns.length then (2 : Int) else ns.length) else 1).toNat).map fun _ => .bl true), [.val (.scr ns), .un]) := fun j h0 h1 => by
    refine ap_lc (ds := rangeD 0 1 (if (if (2 : Int) < ns.length then (2 : Int) else ns.length) > 1 then (if (2 : Int) < ns.length then (2 : Int) else ns.length) else 1).toNat) ?_ rfl ?_ rfl
    · simp only [ap_rg1, ap_aCons, ap_eL, ap_c, Res.bind_ok, consA_p, consB_p, ap_var, varK_val, eLA_p, fLen_scr, okP_some, fMin2_int, fMax2_int, RVd_val, ap_aNil, rg1K_int, List.getElem?_cons_zero]
      rw [if_pos (by unfold big; constructor <;> (repeat' split) <;> omega)]
    · refine (lc_map (fun _ => .bl true) _ _ [] (fun d hd => ?_) ?_).trans rfl
      · obtain ⟨k, hk, rfl⟩ := List.mem_map.mp hd
        exact ⟨[.val (.scr ns), .val (.int (0 + (k : Nat) * 1))], .val (.bl true), [.val (.scr ns), .val (.int (0 + (k : Nat) * 1))], rfl, rfl, by rw [Int.mul_one, Int.zero_add]; exact turn k, rfl, rfl, rfl⟩
      · rw [rangeD_length, List.length_nil]
        unfold most
        omega
  refine runF_ret rfl (σ := [.val (.scr ns), .un]) ?_
  have hb : ∀ l : List D, bls (l.map fun _ => D.bl true) = some (l.map fun _ => true) := fun l => by
    induction l with
    | nil => rfl
    | cons a l ih => rw [List.map_cons, bls_cons, ih]; rfl
  have ha : ∀ l : List D, (l.map fun _ => true).all id = true := fun l => by simp
  simp only [d_law, ap_ret, ap_eL, ap_aCons, slots, List.replicate, List.map]
  rw [show ([SV.val (.scr ns)] ++ List.replicate (2 - [SV.val (.scr ns)].length) SV.un) = [.val (.scr ns), .un] from rfl, lc 1 (by decide) (by decide)]
  simp only [Res.bind_ok, consA_p, ap_aNil, consB_p, eLA_p, RVd_own, fAll_lst, hb, Option.map_some, ha, okP_some, retC_p]
end PL
/-! K54: plain numbers of lots and rising rows. -/
namespace PL
open PySem PySem.Spec PyProof.Rows L2
/-- how many lots of s of the hours below h come to e -/
def lotsW (c : Nat) : Nat → Nat → Nat → Nat
  | 0, s, e => if s = 0 ∧ e = 0 then 1 else 0
  | h + 1, 0, e => lotsW c h 0 e
  | h + 1, s + 1, e => lotsW c h (s + 1) e + lotsW c h s ((e + (c - h)) % c)
/-- .. rising rows -/
def rowsW (c : Nat) : Nat → Nat → Nat → Nat
  | 0, s, e => if s = 0 ∧ e = 0 then 1 else 0
  | h + 1, 0, e => rowsW c h 0 e
  | h + 1, s + 1, e => rowsW c h (s + 1) e + rowsW c (h + 1) s ((e + (c - h)) % c)
termination_by h s _ => (h, s)
theorem lotsW_le (c : Nat) : ∀ h s e, lotsW c h s e ≤ 2 ^ h
  | 0, s, e => by unfold lotsW; split <;> decide
  | h + 1, 0, e => by
    unfold lotsW
    have := lotsW_le c h 0 e
    rw [Nat.pow_succ]
    omega
  | h + 1, s + 1, e => by
    unfold lotsW
    have := lotsW_le c h (s + 1) e
    have := lotsW_le c h s ((e + (c - h)) % c)
    rw [Nat.pow_succ]
    omega
theorem rowsW_le (c : Nat) : ∀ h s e, rowsW c h s e ≤ 2 ^ (h + s)
  | 0, s, e => by
    unfold rowsW
    have : 1 ≤ 2 ^ (0 + s) := Nat.one_le_two_pow
    split <;> omega
  | h + 1, 0, e => by
    unfold rowsW
    have := rowsW_le c h 0 e
    rw [Nat.add_zero] at this ⊢
    rw [Nat.pow_succ]
    omega
  | h + 1, s + 1, e => by
    unfold rowsW
    have h1 := rowsW_le c h (s + 1) e
    have h2 := rowsW_le c (h + 1) s ((e + (c - h)) % c)
    rw [show h + 1 + (s + 1) = h + (s + 1) + 1 by omega, Nat.pow_succ]
    rw [show h + 1 + s = h + (s + 1) by omega] at h2
    omega
termination_by h s _ => (h, s)
/-! ### the same by lists, for the kernel -/
def rotL (c h : Nat) (l : List Nat) : List Nat := l.drop (c - h) ++ l.take (c - h)
def addL : List Nat → List Nat → List Nat
  | a :: as, b :: bs => (a + b) :: addL as bs
  | _, _ => []
def lotStep (c h : Nat) : List (List Nat) → List (List Nat)
  | a :: b :: r => a :: lotGo c h a (b :: r)
  | l => l
where lotGo (c h : Nat) : List Nat → List (List Nat) → List (List Nat)
  | _, [] => []
  | prev, b :: r => addL b (rotL c h prev) :: lotGo c h b r
def rowStep (c h : Nat) : List (List Nat) → List (List Nat)
  | [] => []
  | a :: r => a :: rowGo c h a r
where rowGo (c h : Nat) : List Nat → List (List Nat) → List (List Nat)
  | _, [] => []
  | prev, b :: r => addL b (rotL c h prev) :: rowGo c h (addL b (rotL c h prev)) r
def zeros : Nat → List Nat
  | 0 => []
  | n + 1 => 0 :: zeros n
def tab0 (c m : Nat) : List (List Nat) := (1 :: zeros (c - 1)) :: List.replicate m (zeros c)
def hoursTab (step : Nat → List (List Nat) → List (List Nat)) (t : List (List Nat)) : Nat → List (List Nat)
  | 0 => t
  | h + 1 => step h (hoursTab step t h)
def rowsTab (c m : Nat) : List (List Nat) := hoursTab (rowStep c) (tab0 c m) c
def lotsTab (c m : Nat) : List (List Nat) := hoursTab (lotStep c) (tab0 c m) c
def colT (t : List (List Nat)) : List Nat := t.map fun l => l.headD 0
/-- all first columns of the clocks 2 .. 24, for sizes 0 .. 24 -/
def recip : Bool := let t := (List.range 23).map fun i => colT (rowsTab (i + 2) 24)
  (List.range 23).all fun i => (List.range 23).all fun j => (t.getD i []).getD (j + 2) 0 == (t.getD j []).getD (i + 2) 0
def evenL (c : Nat) : Bool := let t := lotsTab c c
  (List.range (c + 1)).all fun s => s == 0 || Nat.gcd c s != 1 || ((t.getD s []).all fun x => x == (t.getD s []).headD 0)
set_option maxHeartbeats 0 in
theorem recip_ok : recip = true := by decide +kernel
set_option maxHeartbeats 0 in
theorem evenL_ok : (List.range 23).all (fun i => evenL (i + 2)) = true := by decide +kernel
end PL
namespace PL
open PySem PySem.Spec PyProof.Rows L2
def rowF (c : Nat) (f : Nat → Nat) : List Nat := (List.range c).map f
theorem rowF_get {c : Nat} {f : Nat → Nat} {i : Nat} (h : i < c) : (rowF c f)[i]? = some (f i) := by
  unfold rowF
  rw [List.getElem?_map, List.getElem?_range h]
  rfl
theorem rowF_len {c : Nat} {f : Nat → Nat} : (rowF c f).length = c := by
  unfold rowF
  rw [List.length_map, List.length_range]
theorem rotL_rowF {c h : Nat} {f : Nat → Nat} (hh : h < c) : rotL c h (rowF c f) = rowF c fun e => f ((e + (c - h)) % c) := by
  apply List.ext_getElem?
  intro i
  unfold rotL
  by_cases hi : i < c
  · rw [rowF_get hi]
    have ld : ((rowF c f).drop (c - h)).length = h := by rw [List.length_drop, rowF_len]; omega
    by_cases h1 : i < h
    · rw [List.getElem?_append_left (by omega), List.getElem?_drop, rowF_get (by omega), Nat.mod_eq_of_lt (by omega), Nat.add_comm]
    · rw [List.getElem?_append_right (by omega), ld, List.getElem?_take_of_lt (by omega), rowF_get (by omega)]
      rw [show i + (c - h) = (i - h) + c by omega, Nat.add_mod_right, Nat.mod_eq_of_lt (by omega)]
  · rw [List.getElem?_eq_none (by rw [List.length_append, List.length_drop, List.length_take, rowF_len]; omega), List.getElem?_eq_none (by rw [rowF_len]; omega)]
theorem addL_map (f g : Nat → Nat) : ∀ l : List Nat, addL (l.map f) (l.map g) = l.map fun e => f e + g e
  | [] => rfl
  | a :: l => by
    rw [List.map_cons, List.map_cons, List.map_cons, addL, addL_map f g l]
theorem addL_rowF {c : Nat} {f g : Nat → Nat} : addL (rowF c f) (rowF c g) = rowF c fun e => f e + g e := addL_map f g _
theorem zeros_map {α : Type} (l : List α) : zeros l.length = l.map fun _ => 0 := by
  induction l with
  | nil => rfl
  | cons a l ih => rw [List.length_cons, zeros, ih, List.map_cons]
theorem zeros_rowF (c : Nat) : zeros c = rowF c fun _ => 0 := by
  have := zeros_map (List.range c)
  rw [List.length_range] at this
  exact this
theorem one_rowF {c : Nat} (h : 0 < c) : (1 :: zeros (c - 1)) = rowF c fun e => if e = 0 then 1 else 0 := by
  obtain ⟨n, rfl⟩ : ∃ n, c = n + 1 := ⟨c - 1, by omega⟩
  unfold rowF
  rw [List.range_succ_eq_map, List.map_cons, List.map_map, Nat.add_sub_cancel, zeros_rowF]
  rfl
/-- rows of sizes a, a + 1, .. -/
def tabF (c : Nat) (T : Nat → Nat → Nat) (a n : Nat) : List (List Nat) := (List.range' a n).map fun s => rowF c (T s)
theorem tabF_succ {c a n : Nat} {T : Nat → Nat → Nat} : tabF c T a (n + 1) = rowF c (T a) :: tabF c T (a + 1) n := by
  unfold tabF
  rw [List.range'_succ, List.map_cons]
theorem rep_tabF {c : Nat} {T : Nat → Nat → Nat} (h : ∀ s, T (s + 1) = fun _ => 0) : ∀ a m, List.replicate m (zeros c) = tabF c T (a + 1) m
  | a, 0 => rfl
  | a, m + 1 => by
    rw [List.replicate_succ, tabF_succ, ← rep_tabF h (a + 1) m, h, zeros_rowF]
theorem tab0_F {c m : Nat} {T : Nat → Nat → Nat} (hc : 0 < c) (h0 : T 0 = fun e => if e = 0 then 1 else 0) (h : ∀ s, T (s + 1) = fun _ => 0) : tab0 c m = tabF c T 0 (m + 1) := by
  rw [tabF_succ, h0]
  unfold tab0
  rw [one_rowF hc, rep_tabF h]
theorem rowGo_F {c h : Nat} (hh : h < c) : ∀ n s, rowStep.rowGo c h (rowF c (rowsW c (h + 1) s)) (tabF c (rowsW c h) (s + 1) n) = tabF c (rowsW c (h + 1)) (s + 1) n
  | 0, s => rfl
  | n + 1, s => by
    have e : addL (rowF c (rowsW c h (s + 1))) (rotL c h (rowF c (rowsW c (h + 1) s))) = rowF c (rowsW c (h + 1) (s + 1)) := by
      rw [rotL_rowF hh, addL_rowF]
      unfold rowF
      exact List.map_congr_left fun e _ => by conv => rhs; unfold rowsW
    rw [tabF_succ, tabF_succ, rowStep.rowGo, e, rowGo_F hh n (s + 1)]
theorem rowsTab_F {c m : Nat} (hc : 0 < c) : ∀ h, h ≤ c → hoursTab (rowStep c) (tab0 c m) h = tabF c (rowsW c h) 0 (m + 1)
  | 0, _ => tab0_F hc (by funext e; unfold rowsW; simp) fun s => by funext e; unfold rowsW; simp
  | h + 1, hh => by
    rw [hoursTab, rowsTab_F hc h (by omega), tabF_succ, tabF_succ, rowStep]
    have e0 : rowF c (rowsW c h 0) = rowF c (rowsW c (h + 1) 0) := by
      unfold rowF
      exact List.map_congr_left fun e _ => by conv => rhs; unfold rowsW
    rw [e0, rowGo_F (by omega)]
theorem lotGo_F {c h : Nat} (hh : h < c) : ∀ n s, lotStep.lotGo c h (rowF c (lotsW c h s)) (tabF c (lotsW c h) (s + 1) n) = tabF c (lotsW c (h + 1)) (s + 1) n
  | 0, s => rfl
  | n + 1, s => by
    have e : addL (rowF c (lotsW c h (s + 1))) (rotL c h (rowF c (lotsW c h s))) = rowF c (lotsW c (h + 1) (s + 1)) := by
      rw [rotL_rowF hh, addL_rowF]
      unfold rowF
      exact List.map_congr_left fun e _ => by conv => rhs; unfold lotsW
    rw [tabF_succ, tabF_succ, lotStep.lotGo, e, lotGo_F hh n (s + 1)]
theorem lotsTab_F {c m : Nat} (hc : 0 < c) (hm : 0 < m) : ∀ h, h ≤ c → hoursTab (lotStep c) (tab0 c m) h = tabF c (lotsW c h) 0 (m + 1)
  | 0, _ => tab0_F hc (by funext e; unfold lotsW; simp) fun s => by funext e; unfold lotsW; simp
  | h + 1, hh => by
    obtain ⟨k, rfl⟩ : ∃ k, m = k + 1 := ⟨m - 1, by omega⟩
    rw [hoursTab, lotsTab_F hc hm h (by omega), tabF_succ, tabF_succ, lotStep, ← tabF_succ (n := k), lotGo_F (by omega)]
    have e0 : rowF c (lotsW c h 0) = rowF c (lotsW c (h + 1) 0) := by
      unfold rowF
      exact List.map_congr_left fun e _ => by conv => rhs; unfold lotsW
    rw [e0, ← tabF_succ]
theorem tabF_get {c n s : Nat} {T : Nat → Nat → Nat} (h : s < n) : (tabF c T 0 n)[s]? = some (rowF c (T s)) := by
  unfold tabF
  rw [List.getElem?_map, List.getElem?_range' h]
  simp
theorem rowF_head {c : Nat} {f : Nat → Nat} (h : 0 < c) : (rowF c f).headD 0 = f 0 := by
  have := rowF_get (f := f) h
  cases e : rowF c f with
  | nil => rw [e] at this; cases this
  | cons a l => rw [e] at this; exact Option.some.inj this
theorem recip_of {c s : Nat} (hc : 2 ≤ c) (hc2 : c ≤ 24) (hs : 2 ≤ s) (hs2 : s ≤ 24) : rowsW c c s 0 = rowsW s s c 0 := by
  have h := recip_ok
  unfold recip at h
  have h1 := List.all_eq_true.mp h (c - 2) (List.mem_range.mpr (by omega))
  have h2 := List.all_eq_true.mp h1 (s - 2) (List.mem_range.mpr (by omega))
  have col : ∀ a b : Nat, 2 ≤ a → a ≤ 24 → b ≤ 24 → (((List.range 23).map fun i => colT (rowsTab (i + 2) 24)).getD (a - 2) []).getD b 0 = rowsW a a b 0 := fun a b ha ha2 hb => by
    rw [List.getD_eq_getElem?_getD, List.getD_eq_getElem?_getD, List.getElem?_map, List.getElem?_range (by omega)]
    show ((colT (rowsTab (a - 2 + 2) 24))[b]?).getD 0 = _
    rw [show a - 2 + 2 = a by omega]
    unfold colT rowsTab
    rw [rowsTab_F (by omega) a (Nat.le_refl _), List.getElem?_map, tabF_get (by omega)]
    exact rowF_head (by omega)
  have h3 := eq_of_beq h2
  rw [show s - 2 + 2 = s by omega, show c - 2 + 2 = c by omega, col c s hc hc2 hs2, col s c hs hs2 hc2] at h3
  exact h3
theorem evenL_of {c s e : Nat} (hc : 2 ≤ c) (hc2 : c ≤ 24) (hs : 0 < s) (hs2 : s ≤ c) (hg : Nat.gcd c s = 1) (he : e < c) : lotsW c c s e = lotsW c c s 0 := by
  have h1 := List.all_eq_true.mp evenL_ok (c - 2) (List.mem_range.mpr (by omega))
  rw [show c - 2 + 2 = c by omega] at h1
  unfold evenL at h1
  have h2 := List.all_eq_true.mp h1 s (List.mem_range.mpr (by omega))
  have e1 : (s == 0) = false := beq_eq_false_iff_ne.mpr (by omega)
  have e2 : (Nat.gcd c s != 1) = false := by rw [hg]; rfl
  rw [e1, e2, Bool.false_or, Bool.false_or] at h2
  have e3 : (lotsTab c c).getD s [] = rowF c (lotsW c c s) := by
    unfold lotsTab
    rw [lotsTab_F (by omega) (by omega) c (Nat.le_refl _), List.getD_eq_getElem?_getD, tabF_get (by omega)]
    rfl
  rw [e3] at h2
  have h3 := List.all_eq_true.mp h2 (lotsW c c s e) (List.mem_of_getElem? (rowF_get he))
  rw [rowF_head (by omega)] at h3
  exact eq_of_beq h3
end PL
namespace PL
open PySem PySem.Spec PyProof.Rows L2
def UV (s : SV) : Prop := s = .un ∨ ∃ d, s = .val d
theorem UV.un : UV .un := .inl rfl
theorem UV.val {d : D} : UV (.val d) := .inr ⟨d, rfl⟩
theorem setK_uv {i : Nat} {d : D} {s : PSt} {x : SV} (h : UV x) : setK i d s (some x) = .ok (.next (s.set i (.val d))) := by
  rcases h with rfl | ⟨e, rfl⟩ <;> rfl
theorem UV.get {s : PSt} {i : Nat} {x : SV} (h : UV x) (e : s[i]? = some x) : s[i]? = some .un ∨ ∃ d, s[i]? = some (.val d) := by
  rcases h with rfl | ⟨d, rfl⟩
  · exact .inl e
  · exact .inr ⟨d, e⟩
def rowD (c : Nat) (f : Nat → Nat) : D := .lst ((List.range c).map fun e => .int (f e : Nat))
def tabD (c : Nat) (T : Nat → Nat → Nat) (n : Nat) : List D := (List.range n).map fun s => rowD c (T s)
theorem tabD_len {c n : Nat} {T : Nat → Nat → Nat} : (tabD c T n).length = n := by
  unfold tabD
  rw [List.length_map, List.length_range]
theorem tabD_at {c n s : Nat} {T : Nat → Nat → Nat} (h : s < n) : atI (tabD c T n) (s : Int) = some (rowD c (T s)) := by
  refine atI_nat ?_
  unfold tabD
  rw [List.getElem?_map, List.getElem?_range h]
  rfl
theorem fIx_tab {c n s : Nat} {T : Nat → Nat → Nat} (h : s < n) : fIx (.lst (tabD c T n)) (.int (s : Int)) = some (.val (rowD c (T s))) := by
  rw [fIx_lst, tabD_at h]
  rfl
theorem fIx_row {c e : Nat} {f : Nat → Nat} (h : e < c) : fIx (rowD c f) (.int (e : Int)) = some (.val (.int (f e : Nat))) := by
  unfold rowD
  rw [fIx_lst, atI_nat (v := .int (f e : Nat)) (by rw [List.getElem?_map, List.getElem?_range h]; rfl)]
  rfl
theorem tabD_succ {c n : Nat} {T : Nat → Nat → Nat} : tabD c T n ++ [rowD c (T n)] = tabD c T (n + 1) := by
  unfold tabD
  rw [List.range_succ, List.map_append]
  rfl
theorem py_mod {c h e : Nat} (hh : h ≤ c) (hc : 0 < c) : ((e : Int) - (h : Int)) % (c : Int) = (((e + (c - h)) % c : Nat) : Int) := by
  rw [Int.natCast_emod, Int.natCast_add, Int.natCast_sub hh, show (e : Int) + ((c : Int) - (h : Int)) = ((e : Int) - (h : Int)) + (c : Int) by omega, Int.add_emod_right]
/-! ### checks -/
theorem whole_ok {k : Int} : F_is_whole [.int k] = .ok (.val (.bl true)) :=
  runF_ret rfl (σ := _) (by simp [slots, d_is_whole, isi_int_int, isi_int_bool]; rfl)
theorem number_ok {k lo hi : Int} (h1 : lo ≤ k) (h2 : k ≤ hi) : F_is_number [.int k, .int lo, .int hi] = .ok (.val (.bl true)) :=
  runF_ret rfl (σ := _) (by simp [slots, d_is_number, whole_ok, h2, show ¬ k < lo by omega]; rfl)
theorem clockform_ok {c : Int} (h1 : 2 ≤ c) (h2 : c ≤ 24) : F_is_clock_form [.int c] = .ok (.val (.bl true)) :=
  runF_ret rfl (σ := _) (by simp [slots, d_is_clock_form, number_ok h1 h2]; rfl)
theorem checkclock_ok {c : Int} (h1 : 2 ≤ c) (h2 : c ≤ 24) : F_check_clock [.int c] = .ok (.val .non) :=
  runF_next rfl (σ := _) (by simp [slots, d_check_clock, clockform_ok h1 h2]; rfl)
theorem checknumber_ok {k lo hi : Int} (h1 : lo ≤ k) (h2 : k ≤ hi) : F_check_number [.int k, .int lo, .int hi] = .ok (.val .non) :=
  runF_next rfl (σ := _) (by simp [slots, d_check_number, number_ok h1 h2]; rfl)
theorem checkmany_ok {k : Int} (h1 : 0 ≤ k) (h2 : k ≤ 24) : F_check_many [.int k] = .ok (.val .non) :=
  runF_next rfl (σ := _) (by simp [slots, d_check_many, checknumber_ok h1 h2]; rfl)
theorem hour_ok {c h : Int} (h1 : 0 ≤ h) (h2 : h < c) : F_is_hour [.int c, .int h] = .ok (.val (.bl true)) :=
  runF_ret rfl (σ := _) (by simp [slots, d_is_hour, number_ok h1 (show h ≤ c - 1 by omega)]; rfl)
theorem checkhour_ok {c h : Int} (h1 : 0 ≤ h) (h2 : h < c) : F_check_hour_of [.int c, .int h] = .ok (.val .non) :=
  runF_next rfl (σ := _) (by simp [slots, d_check_hour_of, hour_ok h1 h2]; rfl)
theorem tallied_ok {c s h : Int} (h1 : 2 ≤ c) (h2 : c ≤ 24) (h3 : 0 ≤ s) (h4 : s ≤ 24) (h5 : 0 ≤ h) (h6 : h < c) : F_check_tallied [.int c, .int s, .int h] = .ok (.val .non) :=
  runF_next rfl (σ := _) (by simp [slots, d_check_tallied, checkclock_ok h1 h2, checkmany_ok h3 h4, checkhour_ok h5 h6]; rfl)
/-! ### the law's table -/
def TW (b : Bool) (c h s e : Nat) : Nat := if b = true then rowsW c h s e else lotsW c h s e
theorem TW_zero {b : Bool} {c h e : Nat} : TW b c (h + 1) 0 e = TW b c h 0 e := by
  unfold TW
  cases b
  · show lotsW c (h + 1) 0 e = lotsW c h 0 e
    conv => lhs; unfold lotsW
  · show rowsW c (h + 1) 0 e = rowsW c h 0 e
    conv => lhs; unfold rowsW
theorem TW_succ {b : Bool} {c h s e : Nat} : TW b c (h + 1) (s + 1) e = TW b c h (s + 1) e + (if b = true then TW b c (h + 1) s ((e + (c - h)) % c) else TW b c h s ((e + (c - h)) % c)) := by
  unfold TW
  cases b
  · show lotsW c (h + 1) (s + 1) e = lotsW c h (s + 1) e + lotsW c h s _
    conv => lhs; unfold lotsW
  · show rowsW c (h + 1) (s + 1) e = rowsW c h (s + 1) e + rowsW c (h + 1) s _
    conv => lhs; unfold rowsW
theorem TW_start {b : Bool} {c s e : Nat} : TW b c 0 s e = if s = 0 ∧ e = 0 then 1 else 0 := by
  unfold TW
  cases b
  · show lotsW c 0 s e = _
    unfold lotsW
    rfl
  · show rowsW c 0 s e = _
    unfold rowsW
    rfl
theorem row0 {b : Bool} {c : Nat} (hc : 0 < c) : rowD c (TW b c 0 0) = .lst (.int 1 :: List.replicate (c - 1) (.int 0)) := by
  obtain ⟨n, rfl⟩ : ∃ n, c = n + 1 := ⟨c - 1, by omega⟩
  unfold rowD
  rw [List.range_succ_eq_map, List.map_cons, List.map_map, Nat.add_sub_cancel]
  congr 2
  · rw [TW_start]; rfl
  · apply List.ext_getElem?
    intro i
    rw [List.getElem?_map, List.getElem?_replicate]
    by_cases hi : i < n
    · rw [List.getElem?_range hi, if_pos hi]
      show some (D.int (TW b (n + 1) 0 0 (i + 1) : Nat)) = _
      rw [TW_start]
      simp
    · rw [List.getElem?_eq_none (by rw [List.length_range]; omega), if_neg hi]
      rfl
theorem rowS {b : Bool} {c s : Nat} : rowD c (TW b c 0 (s + 1)) = .lst (List.replicate c (.int 0)) := by
  unfold rowD
  congr 1
  apply List.ext_getElem?
  intro i
  rw [List.getElem?_map, List.getElem?_replicate]
  by_cases hi : i < c
  · rw [List.getElem?_range hi, if_pos hi]
    show some (D.int (TW b c 0 (s + 1) i : Nat)) = _
    rw [TW_start]
    simp
  · rw [List.getElem?_eq_none (by rw [List.length_range]; omega), if_neg hi]
    rfl
theorem tab_start {b : Bool} {c m : Nat} (hc : 0 < c) : D.lst (.int 1 :: List.replicate (c - 1) (.int 0)) :: (List.range m).map (fun _ => D.lst (List.replicate c (.int 0))) = tabD c (TW b c 0) (m + 1) := by
  unfold tabD
  rw [List.range_succ_eq_map, List.map_cons, List.map_map, row0 hc]
  congr 1
  exact List.map_congr_left fun k _ => rowS.symm
end PL
namespace PL
open PySem PySem.Spec PyProof.Rows L2
theorem flat1 {α : Type} (n : Nat) (x : α) : (List.replicate n [x]).flatten = List.replicate n x := by
  induction n with
  | zero => rfl
  | succ n ih => rw [List.replicate_succ, List.flatten_cons, ih, List.replicate_succ]; rfl
theorem rep_ok {n : Nat} {x : D} (hn : n ≤ 1000) : fMul (.lst [x]) (.int (n : Int)) = some (.own (List.replicate n x)) := by
  rw [fMul_lst, if_pos ⟨by omega, by omega, by rw [List.length_singleton]; unfold most; omega⟩, show ((n : Nat) : Int).toNat = n from rfl, flat1]
theorem seq_ok {d1 d2 : DS} {σ s : PSt} (h : d1 σ = .ok (.next s)) : dSeq d1 d2 σ = d2 s := by rw [ap_seq, h, Res.bind_ok, seqK_next]
theorem tab_one {c : Nat} {T : Nat → Nat → Nat} {f : Nat → Nat} (h : T 0 = f) : tabD c T 1 = [rowD c f] := by
  rw [← h]
  rfl
theorem rg2_1 {m : Nat} {σ : PSt} (hm : m ≤ 24) (h : σ[1]? = some (.val (.int (m : Nat)))) : iRange2 (aCons (dC (.int 1)) (aCons (PL.e2 fAdd (dVar 1) (dC (.int 1))) aNil)) σ = .ok (⟨(List.range m).map fun (k : Nat) => D.int ((1 + k : Nat) : Int)⟩, σ) := by
  have := rg2_ok (a := 1) (b := m + 1) (σ := σ) (σ1 := σ) (dA := aCons (dC (.int 1)) (aCons (PL.e2 fAdd (dVar 1) (dC (.int 1))) aNil)) (by omega) (by omega) (by simp [h])
  rw [Nat.add_sub_cancel] at this
  exact this
theorem counted_turn {T T' : Nat → Nat → Nat} {b : Bool} {c m h k : Nat} (HS : ∀ s e, T' (s + 1) e = T (s + 1) e + (if b = true then T' s ((e + (c - h)) % c) else T s ((e + (c - h)) % c))) {x6 x7 : SV} (hc : 2 ≤ c) (hc2 : c ≤ 24) (hm : m ≤ 24) (hh : h < c) (hk : k < m) (h6 : UV x6) (h7 : UV x7) :
    ∃ y7, UV y7 ∧ b_law_counted_3 [.val (.int c), .val (.int m), .val (.bl b), .own false (tabD c (T') (k + 1)), .val (.int h), .val (.lst (tabD c (T) (m + 1))), .val (.int ((1 + k : Nat) : Int)), x7, .un, .un] =
      .ok (.next [.val (.int c), .val (.int m), .val (.bl b), .own false (tabD c (T') (k + 1 + 1)), .val (.int h), .val (.lst (tabD c (T) (m + 1))), .val (.int ((1 + k : Nat) : Int)), y7, .un, .un]) := by
  have e1 : ((1 + k : Nat) : Int) - 1 = (k : Int) := by omega
  have less : (eIf (tOf (dVar 2)) (eIxO 3 (PL.e2 fSubI (dVar 6) (dC (.int 1)))) (eIxO 5 (PL.e2 fSubI (dVar 6) (dC (.int 1))))) [.val (.int c), .val (.int m), .val (.bl b), .own false (tabD c (T') (k + 1)), .val (.int h), .val (.lst (tabD c (T) (m + 1))), .val (.int ((1 + k : Nat) : Int)), x7, .un, .un] =
      .ok (.val (rowD c (if b = true then T' k else T k)), [.val (.int c), .val (.int m), .val (.bl b), .own false (tabD c (T') (k + 1)), .val (.int h), .val (.lst (tabD c (T) (m + 1))), .val (.int ((1 + k : Nat) : Int)), x7, .un, .un]) := by
    have f1 : fIx (.lst (tabD c (T) (m + 1))) (.int (k : Int)) = some (.val (rowD c (T k))) := fIx_tab (by omega)
    have f2 : fIx (.lst (tabD c (T') (k + 1))) (.int (k : Int)) = some (.val (rowD c (T' k))) := fIx_tab (by omega)
    have e1' : (1 : Int) + (k : Int) - 1 = (k : Int) := by omega
    cases b
    · simp [e1', f1, -fIx_lst]
    · simp [e1', f2, -fIx_lst]
  have comp := lc_range (σ := [.val (.int c), .val (.int m), .val (.bl b), .own false (tabD c (T') (k + 1)), .val (.int h), .val (.lst (tabD c (T) (m + 1))), .val (.int ((1 + k : Nat) : Int)), .val (rowD c (if b = true then T' k else T k)), .un, .un])
    (dA := aCons (dVar 0) aNil) (x := x_law_counted_2) (v := 9) (c := c) (by omega) rfl rfl (fun e => .int (T' (k + 1) e : Nat)) fun e he => by
      have f1 : fIx (.lst (tabD c (T) (m + 1))) (.int (1 + (k : Int))) = some (.val (rowD c (T (k + 1)))) := by
        rw [show (1 : Int) + (k : Int) = ((k + 1 : Nat) : Int) by omega]
        exact fIx_tab (by omega)
      have f2 : fIx (rowD c (T (k + 1))) (.int (e : Int)) = some (.val (.int (T (k + 1) e : Nat))) := fIx_row he
      have f3 : fIx (rowD c (if b = true then T' k else T k)) (.int (((e : Int) - (h : Int)) % (c : Int))) = some (.val (.int (((if b = true then T' k else T k) ((e + (c - h)) % c) : Nat) : Int))) := by
        rw [py_mod (by omega) (by omega)]
        exact fIx_row (Nat.mod_lt _ (by omega))
      have e4 : ((T (k + 1) e : Nat) : Int) + (((if b = true then T' k else T k) ((e + (c - h)) % c) : Nat) : Int) = ((T' (k + 1) e : Nat) : Int) := by
        rw [HS, Int.natCast_add]
        cases b <;> rfl
      refine ⟨.val (.int (T' (k + 1) e : Nat)), ?_, rfl⟩
      have hp : bPos ((e : Int) - (h : Int)) (c : Int) = true := bPos_of (by omega)
      simp [x_law_counted_2, f1, f2, f3, e4, hp, -fIx_lst]
  refine ⟨.val (rowD c (if b = true then T' k else T k)), .val, ?_⟩
  unfold b_law_counted_3
  rw [ap_seq, ap_set, less, Res.bind_ok, setC_p, List.getElem?_cons_succ, List.getElem?_cons_succ, List.getElem?_cons_succ, List.getElem?_cons_succ, List.getElem?_cons_succ, List.getElem?_cons_succ, List.getElem?_cons_succ, List.getElem?_cons_zero, setK_uv h7, Res.bind_ok, seqK_next, ap_app]
  show appH 3 _ _ (some (.own false _)) = _
  rw [appH_own, show ∀ d : D, ([.val (.int c), .val (.int m), .val (.bl b), .own false (tabD c (T') (k + 1)), .val (.int h), .val (.lst (tabD c (T) (m + 1))), .val (.int ((1 + k : Nat) : Int)), x7, .un, .un] : PSt).set 7 (.val d) = [.val (.int c), .val (.int m), .val (.bl b), .own false (tabD c (T') (k + 1)), .val (.int h), .val (.lst (tabD c (T) (m + 1))), .val (.int ((1 + k : Nat) : Int)), .val d, .un, .un] from fun d => rfl]
  rw [RVd_val, comp, Res.bind_ok, appC_p]
  show appK 3 _ _ (some (.own false _)) = _
  rw [appK_own, if_pos (by rw [tabD_len]; unfold most; omega)]
  rw [← tabD_succ (n := k + 1)]
  rfl
theorem counted_inner {T T' : Nat → Nat → Nat} {b : Bool} {c m h : Nat} (HS : ∀ s e, T' (s + 1) e = T (s + 1) e + (if b = true then T' s ((e + (c - h)) % c) else T s ((e + (c - h)) % c))) {x6 x7 : SV} (hc : 2 ≤ c) (hc2 : c ≤ 24) (hm : m ≤ 24) (hh : h < c) (h6 : UV x6) (h7 : UV x7) : ∃ y6 y7, UV y6 ∧ UV y7 ∧
    dFor (iRange2 (aCons (dC (.int 1)) (aCons (PL.e2 fAdd (dVar 1) (dC (.int 1))) aNil))) (gSet 6) b_law_counted_3 [.val (.int c), .val (.int m), .val (.bl b), .own false (tabD c (T') 1), .val (.int h), .val (.lst (tabD c (T) (m + 1))), x6, x7, .un, .un] =
      .ok (.next [.val (.int c), .val (.int m), .val (.bl b), .own false (tabD c (T') (m + 1)), .val (.int h), .val (.lst (tabD c (T) (m + 1))), y6, y7, .un, .un]) := by
  obtain ⟨σ', e, y6, y7, g6, g7, rfl⟩ := for_nat (v := 6) (db := b_law_counted_3) (σ := [.val (.int c), .val (.int m), .val (.bl b), .own false (tabD c (T') 1), .val (.int h), .val (.lst (tabD c (T) (m + 1))), x6, x7, .un, .un])
    (di := iRange2 (aCons (dC (.int 1)) (aCons (PL.e2 fAdd (dVar 1) (dC (.int 1))) aNil))) (n := m) (f := fun k => D.int ((1 + k : Nat) : Int))
    (fun k σ => ∃ y6 y7, UV y6 ∧ UV y7 ∧ σ = [.val (.int c), .val (.int m), .val (.bl b), .own false (tabD c (T') (k + 1)), .val (.int h), .val (.lst (tabD c (T) (m + 1))), y6, y7, .un, .un])
    (rg2_1 hm rfl) ⟨x6, x7, h6, h7, by rw [Nat.zero_add]⟩ fun k τ hk ⟨y6, y7, g6, g7, e⟩ => by
      subst e
      refine ⟨g6.get rfl, ?_⟩
      obtain ⟨z7, k7, e⟩ := counted_turn HS (x6 := .un) (x7 := y7) hc hc2 hm hh hk .un g7
      exact ⟨_, e, _, z7, .val, k7, rfl⟩
  exact ⟨y6, y7, g6, g7, e⟩
theorem counted_hour {T T' : Nat → Nat → Nat} {b : Bool} {c m h : Nat} (H0 : T' 0 = T 0) (HS : ∀ s e, T' (s + 1) e = T (s + 1) e + (if b = true then T' s ((e + (c - h)) % c) else T s ((e + (c - h)) % c))) {x5 x6 x7 : SV} (hc : 2 ≤ c) (hc2 : c ≤ 24) (hm : m ≤ 24) (hh : h < c) (h5 : UV x5) (h6 : UV x6) (h7 : UV x7) :
    ∃ y5 y6 y7, UV y5 ∧ UV y6 ∧ UV y7 ∧ b_law_counted_4 [.val (.int c), .val (.int m), .val (.bl b), .own false (tabD c (T) (m + 1)), .val (.int h), x5, x6, x7, .un, .un] =
      .ok (.next [.val (.int c), .val (.int m), .val (.bl b), .own false (tabD c (T') (m + 1)), .val (.int h), y5, y6, y7, .un, .un]) := by
  obtain ⟨y6, y7, g6, g7, e⟩ := counted_inner HS hc hc2 hm hh h6 h7
  refine ⟨.val (.lst (tabD c (T) (m + 1))), y6, y7, .val, g6, g7, ?_⟩
  rw [tab_one H0] at e
  have counted_f0 : fIx (.lst (tabD c T (m + 1))) (.int 0) = some (.val (rowD c (T 0))) := fIx_tab (s := 0) (by omega)
  have s1 : dSet 5 (dVar 3) [.val (.int c), .val (.int m), .val (.bl b), .own false (tabD c T (m + 1)), .val (.int h), x5, x6, x7, .un, .un] =
      .ok (.next [.val (.int c), .val (.int m), .val (.bl b), .val (.lst (tabD c T (m + 1))), .val (.int h), .val (.lst (tabD c T (m + 1))), x6, x7, .un, .un]) := by
    simp [setK_uv h5]
  have s2 : dSetO 3 (eLst (aCons (eIxO 5 (dC (.int 0))) aNil)) [.val (.int c), .val (.int m), .val (.bl b), .val (.lst (tabD c T (m + 1))), .val (.int h), .val (.lst (tabD c T (m + 1))), x6, x7, .un, .un] =
      .ok (.next [.val (.int c), .val (.int m), .val (.bl b), .own false [rowD c (T 0)], .val (.int h), .val (.lst (tabD c T (m + 1))), x6, x7, .un, .un]) := by
    simp [counted_f0, most, -fIx_lst]
  exact (seq_ok s1).trans ((seq_ok s2).trans e)
theorem counted_gen {W : Nat → Nat → Nat → Nat} {b : Bool} {c m : Nat} (H0 : ∀ h, W (h + 1) 0 = W h 0) (HS : ∀ h s e, W (h + 1) (s + 1) e = W h (s + 1) e + (if b = true then W (h + 1) s ((e + (c - h)) % c) else W h s ((e + (c - h)) % c)))
    (HT : D.lst (.int 1 :: List.replicate (c - 1) (.int 0)) :: (List.range m).map (fun _ => D.lst (List.replicate c (.int 0))) = tabD c (W 0) (m + 1)) (hc : 2 ≤ c) (hc2 : c ≤ 24) (hm : m ≤ 24) : F_law_counted [.int c, .int m, .bl b] = .ok (.val (.lst (tabD c (W c) (m + 1)))) := by
  obtain ⟨σ', e, y5, y6, y7, x4, g5, g6, g7, g4, rfl⟩ := for_nat (v := 4) (db := b_law_counted_4) (σ := [.val (.int c), .val (.int m), .val (.bl b), .own false (tabD c (W 0) (m + 1)), .un, .un, .un, .un, .un, .un])
    (di := iRange1 (aCons (dVar 0) aNil)) (n := c) (f := fun k => D.int (k : Nat))
    (fun k σ => ∃ y5 y6 y7 y4, UV y5 ∧ UV y6 ∧ UV y7 ∧ UV y4 ∧ σ = [.val (.int c), .val (.int m), .val (.bl b), .own false (tabD c (W k) (m + 1)), y4, y5, y6, y7, .un, .un])
    (rg1_ok (by omega) rfl) ⟨.un, .un, .un, .un, .un, .un, .un, .un, rfl⟩ fun k τ hk ⟨y5, y6, y7, y4, g5, g6, g7, g4, e⟩ => by
      subst e
      refine ⟨g4.get rfl, ?_⟩
      obtain ⟨z5, z6, z7, k5, k6, k7, e⟩ := counted_hour (H0 k) (HS k) hc hc2 hm hk g5 g6 g7
      exact ⟨_, e, z5, z6, z7, _, k5, k6, k7, .val, rfl⟩
  have zs := lc_range (σ := [.val (.int c), .val (.int m), .val (.bl b), .un, .un, .un, .un, .un, .un, .un]) (dA := aCons (dVar 1) aNil) (x := x_law_counted_1) (v := 8) (c := m) (by omega) rfl rfl (fun _ => .lst (List.replicate c (.int 0))) fun k hk =>
    ⟨.own (List.replicate c (.int 0)), by simp [x_law_counted_1, rep_ok (show c ≤ 1000 by omega), most, -fMul_lst], rfl⟩
  have r1 : fMul (.lst [.int 0]) (.int ((c : Int) - 1)) = some (.own (List.replicate (c - 1) (.int 0))) := by
    rw [show (c : Int) - 1 = ((c - 1 : Nat) : Int) by omega]
    exact rep_ok (by omega)
  have l1 : 1 + (c - 1) ≤ 1000000 := by omega
  have l2 : 1 + m ≤ 1000000 := by omega
  have first : (PL.e2 fAdd (eLst (aCons (PL.e2 fAdd (eLst (aCons (dC (.int 1)) aNil)) (PL.e2 fMul (eLst (aCons (dC (.int 0)) aNil)) (PL.e2 fSubI (dVar 0) (dC (.int 1))))) aNil)) (eLc (iRange1 (aCons (dVar 1) aNil)) (gSet 8) tTrue x_law_counted_1 [8])) [.val (.int c), .val (.int m), .val (.bl b), .un, .un, .un, .un, .un, .un, .un] =
      .ok (.own (tabD c (W 0) (m + 1)), [.val (.int c), .val (.int m), .val (.bl b), .un, .un, .un, .un, .un, .un, .un]) := by
    rw [← HT]
    simp [r1, zs, most, l1, l2, -fMul_lst]
  refine runF_ret rfl (σ := [.val (.int c), .val (.int m), .val (.bl b), .val (.lst (tabD c (W c) (m + 1))), x4, y5, y6, y7, .un, .un]) ?_
  show d_law_counted [.val (.int c), .val (.int m), .val (.bl b), .un, .un, .un, .un, .un, .un, .un] = _
  unfold d_law_counted
  rw [ap_seq, ap_setO, first, Res.bind_ok, setOC_p]
  show (setOK 3 _ _ (some .un)).bind _ = _
  rw [setOK_un, Res.bind_ok, seqK_next, ap_seq]
  show (dFor _ _ _ [.val (.int c), .val (.int m), .val (.bl b), .own false (tabD c (W 0) (m + 1)), .un, .un, .un, .un, .un, .un]).bind _ = _
  rw [e, Res.bind_ok, seqK_next]
  simp
theorem counted_ok {b : Bool} {c m : Nat} (hc : 2 ≤ c) (hc2 : c ≤ 24) (hm : m ≤ 24) : F_law_counted [.int c, .int m, .bl b] = .ok (.val (.lst (tabD c (TW b c c) (m + 1)))) :=
  counted_gen (W := TW b c) (fun h => funext fun e => TW_zero) (fun h s e => TW_succ) (tab_start (by omega)) hc hc2 hm
end PL
namespace PL
open PySem PySem.Spec PyProof.Rows L2
theorem neGo_ok {j : Nat} {de : DE} {σ : PSt} {zs : List D} (hj : σ[j]? = some .un) : ∀ ds : List D, (∀ d ∈ ds, de (σ.set j (.val d)) = .ok (.own zs, σ.set j (.val d))) → neGo j de ds σ = .ok (ds.map fun _ => zs, σ)
  | [], _ => rfl
  | d :: ds, h => by
    have hl : j < σ.length := lt_of_get hj
    have hw : wipeD (σ.set j (.val d)) [j] = σ := by
      show (σ.set j (.val d)).set j .un = σ
      rw [List.set_set]
      exact set_un hj
    rw [neGo, h d List.mem_cons_self]
    dsimp only
    rw [if_pos ⟨noOwn1 (List.getElem?_set_self hl) (fun _ _ z => nomatch z), hl⟩, hw, neGo_ok hj ds fun d' hd => h d' (List.mem_cons_of_mem _ hd)]
    rfl
theorem nest_ok {i j : Nat} {di : DI} {de : DE} {σ : PSt} {d0 : D} {ds : List D} {z0 : D} {zs : List D} {x : SV} (h : di σ = .ok (⟨d0 :: ds⟩, σ)) (hl : ds.length + 1 ≤ most) (hj : σ[j]? = some .un) (hi : σ[i]? = some x) (hx : UV x)
    (he : ∀ d ∈ d0 :: ds, de (σ.set j (.val d)) = .ok (.own (z0 :: zs), σ.set j (.val d))) : dNest i j di de σ = .ok (.next (σ.set i (.own false (.lst (.int 1 :: zs) :: ds.map fun _ => .lst (z0 :: zs))))) := by
  have hw : wipeD σ [j] = σ := set_un hj
  have hu : unwipe σ σ [j] = σ := by
    show σ.set j ((σ[j]?).getD .un) = σ
    rw [hj]
    exact set_un hj
  have hn : noOwn σ [j] = true := noOwn1 hj fun _ _ z => nomatch z
  unfold dNest
  rw [h, Res.bind_ok, if_pos ⟨hn, by rw [List.length_cons]; exact hl⟩, hw, neGo_ok hj _ he]
  rw [List.map_cons]
  show (if noOwn σ [j] = true then _ else _) = _
  rw [if_pos hn, hu, hi]
  rcases hx with rfl | ⟨d, rfl⟩
  · dsimp only
    rw [List.map_map]
    rfl
  · dsimp only
    rw [List.map_map]
    rfl
theorem tabD_congr {c n : Nat} {F G : Nat → Nat → Nat} (h : ∀ s, s < n → F s = G s) : tabD c F n = tabD c G n := by
  unfold tabD
  exact List.map_congr_left fun s hs => by rw [h s (List.mem_range.mp hs)]
theorem tabD_set {c n s : Nat} {F : Nat → Nat → Nat} {g : Nat → Nat} : (tabD c F n).set s (rowD c g) = tabD c (fun t => if t = s then g else F t) n := by
  apply List.ext_getElem?
  intro i
  unfold tabD
  by_cases hi : i < n
  · by_cases e : s = i
    · subst e
      rw [List.getElem?_set_self (by rw [List.length_map, List.length_range]; exact hi), List.getElem?_map, List.getElem?_range hi]
      show _ = some (rowD c (if s = s then g else F s))
      rw [if_pos rfl]
    · rw [List.getElem?_set_ne e, List.getElem?_map, List.getElem?_map, List.getElem?_range hi]
      show some (rowD c (F i)) = some (rowD c (if i = s then g else F i))
      rw [if_neg (Ne.symm e)]
  · rw [List.getElem?_eq_none (by rw [List.length_set, List.length_map, List.length_range]; omega), List.getElem?_eq_none (by rw [List.length_map, List.length_range]; omega)]
section
variable {T T' F : Nat → Nat → Nat} {c m h k : Nat} {row : D} {x5 x6 : SV}
/-- one size of an hour: F the table, size s + 1 -/
theorem just_turn {s : Nat} (HS : ∀ e, T' (s + 1) e = F (s + 1) e + F s ((e + (c - h)) % c)) (hc : 2 ≤ c) (hc2 : c ≤ 24) (hh : h < c) (hs : s < m) (hm : m ≤ 24) (h6 : UV x6) :
    ∃ y6, UV y6 ∧ b_just_ways_3 [.val (.int c), .val row, .val (.int m), .own false (tabD c F (m + 1)), .val (.int h), .val (.int ((s + 1 : Nat) : Int)), x6, .un, .un] =
      .ok (.next [.val (.int c), .val row, .val (.int m), .own false (tabD c (fun t => if t = s + 1 then T' (s + 1) else F t) (m + 1)), .val (.int h), .val (.int ((s + 1 : Nat) : Int)), y6, .un, .un]) := by
  refine ⟨.val (rowD c (F s)), .val, ?_⟩
  have f1 : fIx (.lst (tabD c F (m + 1))) (.int (s : Int)) = some (.val (rowD c (F s))) := fIx_tab (by omega)
  have s1 : dSet 6 (eIxO 3 (PL.e2 fSubI (dVar 5) (dC (.int 1)))) [.val (.int c), .val row, .val (.int m), .own false (tabD c F (m + 1)), .val (.int h), .val (.int ((s + 1 : Nat) : Int)), x6, .un, .un] =
      .ok (.next [.val (.int c), .val row, .val (.int m), .own false (tabD c F (m + 1)), .val (.int h), .val (.int ((s + 1 : Nat) : Int)), .val (rowD c (F s)), .un, .un]) := by
    simp [setK_uv h6, f1, -fIx_lst]
  have comp := lc_range (σ := [.val (.int c), .val row, .val (.int m), .own false (tabD c F (m + 1)), .val (.int h), .val (.int ((s + 1 : Nat) : Int)), .val (rowD c (F s)), .un, .un])
    (dA := aCons (dVar 0) aNil) (x := x_just_ways_2) (v := 8) (c := c) (by omega) rfl rfl (fun e => .int (T' (s + 1) e : Nat)) fun e he => by
      have f1 : fIx (.lst (tabD c F (m + 1))) (.int ((s : Int) + 1)) = some (.val (rowD c (F (s + 1)))) := by
        rw [show (s : Int) + 1 = ((s + 1 : Nat) : Int) by omega]
        exact fIx_tab (by omega)
      have f2 : fIx (rowD c (F (s + 1))) (.int (e : Int)) = some (.val (.int (F (s + 1) e : Nat))) := fIx_row he
      have f3 : fIx (rowD c (F s)) (.int (((e : Int) - (h : Int)) % (c : Int))) = some (.val (.int ((F s ((e + (c - h)) % c) : Nat) : Int))) := by
        rw [py_mod (by omega) (by omega)]
        exact fIx_row (Nat.mod_lt _ (by omega))
      have e4 : ((F (s + 1) e : Nat) : Int) + ((F s ((e + (c - h)) % c) : Nat) : Int) = ((T' (s + 1) e : Nat) : Int) := by
        rw [HS, Int.natCast_add]
      refine ⟨.val (.int (T' (s + 1) e : Nat)), ?_, rfl⟩
      have hp : bPos ((e : Int) - (h : Int)) (c : Int) = true := bPos_of (by omega)
      simp [x_just_ways_2, f1, f2, f3, e4, hp, -fIx_lst]
  have ix : ixN (tabD c F (m + 1)).length ((s : Int) + 1) = some (s + 1) := by
    rw [tabD_len, show (s : Int) + 1 = ((s + 1 : Nat) : Int) by omega]
    exact ixN_at (by omega)
  refine (seq_ok s1).trans ?_
  rw [ap_asg, comp, Res.bind_ok, asgC_p, RVd_own]
  show nextK (gSub 3 (dVar 5) (rowD c (T' (s + 1))) _) = _
  simp [ix, tabD_set]
theorem just_hour (H0 : T' 0 = T 0) (HS : ∀ s e, T' (s + 1) e = T (s + 1) e + T s ((e + (c - h)) % c)) (hc : 2 ≤ c) (hc2 : c ≤ 24) (hh : h < c) (hm : m ≤ 24) (h5 : UV x5) (h6 : UV x6) :
    ∃ y5 y6, UV y5 ∧ UV y6 ∧ b_just_ways_4 [.val (.int c), .val row, .val (.int m), .own false (tabD c T (m + 1)), .val (.int h), x5, x6, .un, .un] =
      .ok (.next [.val (.int c), .val row, .val (.int m), .own false (tabD c T' (m + 1)), .val (.int h), y5, y6, .un, .un]) := by
  have rng : iRangeD (aCons (dVar 2) (aCons (dC (.int 0)) (aCons (eNeg (dC (.int 1))) aNil))) [.val (.int c), .val row, .val (.int m), .own false (tabD c T (m + 1)), .val (.int h), x5, x6, .un, .un] =
      .ok (⟨(List.range (m - 0)).map fun (k : Nat) => D.int ((m - k : Nat) : Int)⟩, [.val (.int c), .val row, .val (.int m), .own false (tabD c T (m + 1)), .val (.int h), x5, x6, .un, .un]) := rgD_ok (by omega) (Nat.zero_le _) (by simp)
  rw [Nat.sub_zero] at rng
  obtain ⟨σ', e, y5, y6, g5, g6, rfl⟩ := for_nat (v := 5) (db := b_just_ways_3)
    (fun k σ => ∃ y5 y6, UV y5 ∧ UV y6 ∧ σ = [.val (.int c), .val row, .val (.int m), .own false (tabD c (fun s => if m - k < s then T' s else T s) (m + 1)), .val (.int h), y5, y6, .un, .un])
    rng ⟨x5, x6, h5, h6, by rw [tabD_congr (G := fun s => if m - 0 < s then T' s else T s) fun s hs => (if_neg (by omega)).symm]⟩ fun k τ hk ⟨y5, y6, g5, g6, e⟩ => by
      subst e
      refine ⟨g5.get rfl, ?_⟩
      obtain ⟨z6, k6, e⟩ := just_turn (T' := T') (F := fun s => if m - k < s then T' s else T s) (row := row) (m := m) (h := h) (s := m - k - 1) (fun e => by
        show T' (m - k - 1 + 1) e = (if m - k < m - k - 1 + 1 then T' (m - k - 1 + 1) else T (m - k - 1 + 1)) e + (if m - k < m - k - 1 then T' (m - k - 1) else T (m - k - 1)) _
        rw [HS, if_neg (by omega), if_neg (by omega)]) hc hc2 hh (by omega) hm g6
      rw [show m - k - 1 + 1 = m - k by omega] at e
      refine ⟨_, e, .val (.int ((m - k : Nat) : Int)), z6, .val, k6, ?_⟩
      rw [tabD_congr (F := fun t => if t = m - k then T' (m - k) else if m - k < t then T' t else T t) (G := fun s => if m - (k + 1) < s then T' s else T s) fun s hs => ?_]
      by_cases e1 : s = m - k
      · subst e1
        rw [if_pos rfl, if_pos (by omega)]
      · rw [if_neg e1]
        by_cases e2 : m - k < s
        · rw [if_pos e2, if_pos (by omega)]
        · rw [if_neg e2, if_neg (by omega)]
  refine ⟨y5, y6, g5, g6, ?_⟩
  rw [tabD_congr (F := fun s => if m - m < s then T' s else T s) (G := T') fun s hs => by
    by_cases e1 : s = 0
    · subst e1
      rw [if_neg (by omega), H0]
    · rw [if_pos (by omega)]] at e
  exact e
end
theorem just_gen {W : Nat → Nat → Nat → Nat} {c m : Nat} (H0 : ∀ h, W (h + 1) 0 = W h 0) (HS : ∀ h s e, W (h + 1) (s + 1) e = W h (s + 1) e + W h s ((e + (c - h)) % c))
    (HT : D.lst (.int 1 :: List.replicate (c - 1) (.int 0)) :: (List.range m).map (fun _ => D.lst (List.replicate c (.int 0))) = tabD c (W 0) (m + 1)) (hc : 2 ≤ c) (hc2 : c ≤ 24) (hm : m ≤ 24) :
    F_just_ways [.int c, .tup (rgD 0 c), .int m] = .ok (.val (rowD c (W c m))) := by
  have rep : List.replicate c (D.int 0) = .int 0 :: List.replicate (c - 1) (.int 0) := by
    obtain ⟨n, rfl⟩ : ∃ n, c = n + 1 := ⟨c - 1, by omega⟩
    rw [List.replicate_succ, Nat.add_sub_cancel]
  have s1 : dNest 3 7 (iRange1 (aCons (PL.e2 fAdd (dVar 2) (dC (.int 1))) aNil)) x_just_ways_1 [.val (.int c), .val (.tup (rgD 0 c)), .val (.int m), .un, .un, .un, .un, .un, .un] =
      .ok (.next [.val (.int c), .val (.tup (rgD 0 c)), .val (.int m), .own false (tabD c (W 0) (m + 1)), .un, .un, .un, .un, .un]) := by
    have r := rg1_ok (c := m + 1) (σ := [.val (.int c), .val (.tup (rgD 0 c)), .val (.int m), .un, .un, .un, .un, .un, .un]) (dA := aCons (PL.e2 fAdd (dVar 2) (dC (.int 1))) aNil) (by omega) (by simp; rfl)
    rw [List.range_succ_eq_map, List.map_cons] at r
    rw [nest_ok (z0 := .int 0) (zs := List.replicate (c - 1) (.int 0)) r (by rw [List.length_map, List.length_map, List.length_range]; unfold most; omega) rfl rfl .un fun d hd => by
      rw [← rep]
      simp [x_just_ways_1, rep_ok (show c ≤ 1000 by omega), most, -fMul_lst]]
    rw [← rep, List.map_map, List.map_map]
    rw [← HT]
    rfl
  have rows : iOf (dVar 1) [.val (.int c), .val (.tup (rgD 0 c)), .val (.int m), .own false (tabD c (W 0) (m + 1)), .un, .un, .un, .un, .un] = .ok (⟨(List.range c).map fun (k : Nat) => D.int (0 + (k : Nat))⟩, [.val (.int c), .val (.tup (rgD 0 c)), .val (.int m), .own false (tabD c (W 0) (m + 1)), .un, .un, .un, .un, .un]) := by
    simp [rgD]
  obtain ⟨σ', e, y4, y5, y6, g4, g5, g6, rfl⟩ := for_nat (v := 4) (db := b_just_ways_4)
    (fun k σ => ∃ y4 y5 y6, UV y4 ∧ UV y5 ∧ UV y6 ∧ σ = [.val (.int c), .val (.tup (rgD 0 c)), .val (.int m), .own false (tabD c (W k) (m + 1)), y4, y5, y6, .un, .un])
    rows ⟨.un, .un, .un, .un, .un, .un, rfl⟩ fun k τ hk ⟨y4, y5, y6, g4, g5, g6, e⟩ => by
      subst e
      refine ⟨g4.get rfl, ?_⟩
      obtain ⟨z5, z6, k5, k6, e⟩ := just_hour (row := .tup (rgD 0 c)) (H0 k) (HS k) hc hc2 hk hm g5 g6
      rw [Int.zero_add]
      exact ⟨_, e, _, z5, z6, .val, k5, k6, rfl⟩
  have f1 : fIx (.lst (tabD c (W c) (m + 1))) (.int (m : Int)) = some (.val (rowD c (W c m))) := fIx_tab (by omega)
  refine runF_ret rfl (σ := [.val (.int c), .val (.tup (rgD 0 c)), .val (.int m), .own false (tabD c (W c) (m + 1)), y4, y5, y6, .un, .un]) ?_
  show d_just_ways [.val (.int c), .val (.tup (rgD 0 c)), .val (.int m), .un, .un, .un, .un, .un, .un] = _
  refine (seq_ok s1).trans ((seq_ok e).trans ?_)
  simp [f1, -fIx_lst]
end PL
namespace PL
open PySem PySem.Spec PyProof.Rows L2
section
variable {T T' F : Nat → Nat → Nat} {c m h k : Nat} {x4 x5 : SV}
theorem rise_turn {s : Nat} (HS : ∀ e, T' (s + 1) e = F (s + 1) e + F s ((e + (c - h)) % c)) (hc : 2 ≤ c) (hc2 : c ≤ 24) (hh : h < c) (hs : s < m) (hm : m ≤ 24) (h5 : UV x5) :
    ∃ y5, UV y5 ∧ b_rising_ways_3 [.val (.int c), .val (.int m), .own false (tabD c F (m + 1)), .val (.int h), .val (.int ((1 + s : Nat) : Int)), x5, .un, .un] =
      .ok (.next [.val (.int c), .val (.int m), .own false (tabD c (fun t => if t = s + 1 then T' (s + 1) else F t) (m + 1)), .val (.int h), .val (.int ((1 + s : Nat) : Int)), y5, .un, .un]) := by
  refine ⟨.val (rowD c (F s)), .val, ?_⟩
  have s1 : dSet 5 (eIxO 2 (PL.e2 fSubI (dVar 4) (dC (.int 1)))) [.val (.int c), .val (.int m), .own false (tabD c F (m + 1)), .val (.int h), .val (.int ((1 + s : Nat) : Int)), x5, .un, .un] =
      .ok (.next [.val (.int c), .val (.int m), .own false (tabD c F (m + 1)), .val (.int h), .val (.int ((1 + s : Nat) : Int)), .val (rowD c (F s)), .un, .un]) := by
    have f1 : fIx (.lst (tabD c F (m + 1))) (.int (1 + (s : Int) - 1)) = some (.val (rowD c (F s))) := by
      rw [show 1 + (s : Int) - 1 = (s : Int) by omega]
      exact fIx_tab (by omega)
    simp [setK_uv h5, f1, -fIx_lst]
  have comp := lc_range (σ := [.val (.int c), .val (.int m), .own false (tabD c F (m + 1)), .val (.int h), .val (.int ((1 + s : Nat) : Int)), .val (rowD c (F s)), .un, .un])
    (dA := aCons (dVar 0) aNil) (x := x_rising_ways_2) (v := 7) (c := c) (by omega) rfl rfl (fun e => .int (T' (s + 1) e : Nat)) fun e he => by
      have f1 : fIx (.lst (tabD c F (m + 1))) (.int (1 + (s : Int))) = some (.val (rowD c (F (s + 1)))) := by
        rw [show 1 + (s : Int) = ((s + 1 : Nat) : Int) by omega]
        exact fIx_tab (by omega)
      have f2 : fIx (rowD c (F (s + 1))) (.int (e : Int)) = some (.val (.int (F (s + 1) e : Nat))) := fIx_row he
      have f3 : fIx (rowD c (F s)) (.int (((e : Int) - (h : Int)) % (c : Int))) = some (.val (.int ((F s ((e + (c - h)) % c) : Nat) : Int))) := by
        rw [py_mod (by omega) (by omega)]
        exact fIx_row (Nat.mod_lt _ (by omega))
      have e4 : ((F (s + 1) e : Nat) : Int) + ((F s ((e + (c - h)) % c) : Nat) : Int) = ((T' (s + 1) e : Nat) : Int) := by
        rw [HS, Int.natCast_add]
      refine ⟨.val (.int (T' (s + 1) e : Nat)), ?_, rfl⟩
      have hp : bPos ((e : Int) - (h : Int)) (c : Int) = true := bPos_of (by omega)
      simp [x_rising_ways_2, f1, f2, f3, e4, hp, -fIx_lst]
  have ix : ixN (tabD c F (m + 1)).length (1 + (s : Int)) = some (s + 1) := by
    rw [tabD_len, show 1 + (s : Int) = ((s + 1 : Nat) : Int) by omega]
    exact ixN_at (by omega)
  refine (seq_ok s1).trans ?_
  rw [ap_asg, comp, Res.bind_ok, asgC_p, RVd_own]
  show nextK (gSub 2 (dVar 4) (rowD c (T' (s + 1))) _) = _
  simp [ix, tabD_set]
theorem rise_hour (H0 : T' 0 = T 0) (HS : ∀ s e, T' (s + 1) e = T (s + 1) e + T' s ((e + (c - h)) % c)) (hc : 2 ≤ c) (hc2 : c ≤ 24) (hh : h < c) (hm : m ≤ 24) (h4 : UV x4) (h5 : UV x5) :
    ∃ y4 y5, UV y4 ∧ UV y5 ∧ b_rising_ways_4 [.val (.int c), .val (.int m), .own false (tabD c T (m + 1)), .val (.int h), x4, x5, .un, .un] =
      .ok (.next [.val (.int c), .val (.int m), .own false (tabD c T' (m + 1)), .val (.int h), y4, y5, .un, .un]) := by
  obtain ⟨σ', e, y4, y5, g4, g5, rfl⟩ := for_nat (v := 4) (db := b_rising_ways_3)
    (fun k σ => ∃ y4 y5, UV y4 ∧ UV y5 ∧ σ = [.val (.int c), .val (.int m), .own false (tabD c (fun s => if s ≤ k then T' s else T s) (m + 1)), .val (.int h), y4, y5, .un, .un])
    (rg2_1 (σ := [.val (.int c), .val (.int m), .own false (tabD c T (m + 1)), .val (.int h), x4, x5, .un, .un]) hm rfl) ⟨x4, x5, h4, h5, by rw [tabD_congr (F := fun s => if s ≤ 0 then T' s else T s) (G := T) fun s hs => by
      by_cases e1 : s = 0
      · subst e1
        rw [if_pos (by omega), H0]
      · rw [if_neg (by omega)]]⟩ fun k τ hk ⟨y4, y5, g4, g5, e⟩ => by
      subst e
      refine ⟨g4.get rfl, ?_⟩
      obtain ⟨z5, k5, e⟩ := rise_turn (T' := T') (F := fun s => if s ≤ k then T' s else T s) (m := m) (h := h) (s := k) (fun e => by
        show T' (k + 1) e = (if k + 1 ≤ k then T' (k + 1) else T (k + 1)) e + (if k ≤ k then T' k else T k) _
        rw [HS, if_neg (by omega), if_pos (by omega)]) hc hc2 hh hk hm g5
      refine ⟨_, e, .val (.int ((1 + k : Nat) : Int)), z5, .val, k5, ?_⟩
      rw [tabD_congr (F := fun t => if t = k + 1 then T' (k + 1) else if t ≤ k then T' t else T t) (G := fun s => if s ≤ k + 1 then T' s else T s) fun s hs => ?_]
      by_cases e1 : s = k + 1
      · subst e1
        rw [if_pos rfl, if_pos (by omega)]
      · rw [if_neg e1]
        by_cases e2 : s ≤ k
        · rw [if_pos e2, if_pos (by omega)]
        · rw [if_neg e2, if_neg (by omega)]
  refine ⟨y4, y5, g4, g5, ?_⟩
  rw [tabD_congr (F := fun s => if s ≤ m then T' s else T s) (G := T') fun s hs => by rw [if_pos (by omega)]] at e
  exact e
end
theorem rise_gen {W : Nat → Nat → Nat → Nat} {c m : Nat} (H0 : ∀ h, W (h + 1) 0 = W h 0) (HS : ∀ h s e, W (h + 1) (s + 1) e = W h (s + 1) e + W (h + 1) s ((e + (c - h)) % c))
    (HT : D.lst (.int 1 :: List.replicate (c - 1) (.int 0)) :: (List.range m).map (fun _ => D.lst (List.replicate c (.int 0))) = tabD c (W 0) (m + 1)) (hc : 2 ≤ c) (hc2 : c ≤ 24) (hm : m ≤ 24) :
    F_rising_ways [.int c, .int m] = .ok (.val (rowD c (W c m))) := by
  have rep : List.replicate c (D.int 0) = .int 0 :: List.replicate (c - 1) (.int 0) := by
    obtain ⟨n, rfl⟩ : ∃ n, c = n + 1 := ⟨c - 1, by omega⟩
    rw [List.replicate_succ, Nat.add_sub_cancel]
  have s1 : dNest 2 6 (iRange1 (aCons (PL.e2 fAdd (dVar 1) (dC (.int 1))) aNil)) x_rising_ways_1 [.val (.int c), .val (.int m), .un, .un, .un, .un, .un, .un] =
      .ok (.next [.val (.int c), .val (.int m), .own false (tabD c (W 0) (m + 1)), .un, .un, .un, .un, .un]) := by
    have r := rg1_ok (c := m + 1) (σ := [.val (.int c), .val (.int m), .un, .un, .un, .un, .un, .un]) (dA := aCons (PL.e2 fAdd (dVar 1) (dC (.int 1))) aNil) (by omega) (by simp; rfl)
    rw [List.range_succ_eq_map, List.map_cons] at r
    rw [nest_ok (z0 := .int 0) (zs := List.replicate (c - 1) (.int 0)) r (by rw [List.length_map, List.length_map, List.length_range]; unfold most; omega) rfl rfl .un fun d hd => by
      rw [← rep]
      simp [x_rising_ways_1, rep_ok (show c ≤ 1000 by omega), most, -fMul_lst]]
    rw [← rep, List.map_map, List.map_map]
    rw [← HT]
    rfl
  obtain ⟨σ', e, y3, y4, y5, g3, g4, g5, rfl⟩ := for_nat (v := 3) (db := b_rising_ways_4) (σ := [.val (.int c), .val (.int m), .own false (tabD c (W 0) (m + 1)), .un, .un, .un, .un, .un]) (di := iRange1 (aCons (dVar 0) aNil)) (n := c) (f := fun k => D.int (k : Nat))
    (fun k σ => ∃ y3 y4 y5, UV y3 ∧ UV y4 ∧ UV y5 ∧ σ = [.val (.int c), .val (.int m), .own false (tabD c (W k) (m + 1)), y3, y4, y5, .un, .un])
    (rg1_ok (by omega) rfl) ⟨.un, .un, .un, .un, .un, .un, rfl⟩ fun k τ hk ⟨y3, y4, y5, g3, g4, g5, e⟩ => by
      subst e
      refine ⟨g3.get rfl, ?_⟩
      obtain ⟨z4, z5, k4, k5, e⟩ := rise_hour (H0 k) (HS k) hc hc2 hk hm g4 g5
      exact ⟨_, e, _, z4, z5, .val, k4, k5, rfl⟩
  have f1 : fIx (.lst (tabD c (W c) (m + 1))) (.int (m : Int)) = some (.val (rowD c (W c m))) := fIx_tab (by omega)
  refine runF_ret rfl (σ := [.val (.int c), .val (.int m), .own false (tabD c (W c) (m + 1)), y3, y4, y5, .un, .un]) ?_
  show d_rising_ways [.val (.int c), .val (.int m), .un, .un, .un, .un, .un, .un] = _
  refine (seq_ok s1).trans ((seq_ok e).trans ?_)
  simp [f1, -fIx_lst]
theorem just_ok {c m : Nat} (hc : 2 ≤ c) (hc2 : c ≤ 24) (hm : m ≤ 24) : F_just_ways [.int c, .tup (rgD 0 c), .int m] = .ok (.val (rowD c (TW false c c m))) :=
  just_gen (W := TW false c) (fun h => funext fun e => TW_zero) (fun h s e => TW_succ) (tab_start (by omega)) hc hc2 hm
theorem rise_ok {c m : Nat} (hc : 2 ≤ c) (hc2 : c ≤ 24) (hm : m ≤ 24) : F_rising_ways [.int c, .int m] = .ok (.val (rowD c (TW true c c m))) :=
  rise_gen (W := TW true c) (fun h => funext fun e => TW_zero) (fun h s e => TW_succ) (tab_start (by omega)) hc hc2 hm
theorem rg1T_ok {c : Nat} {f : List D → RV} (hc : c ≤ 1000000) : fRg1 f (.int (c : Int)) = some (f (rgD 0 c)) := by
  unfold fRg1 fRg
  exact if_pos ⟨by omega, by omega, by omega, by omega, by omega⟩
theorem lotnumber_gen {g : Nat → Nat} {c m e : Nat} (j : F_just_ways [.int c, .tup (rgD 0 c), .int m] = .ok (.val (rowD c g))) (hc : 2 ≤ c) (hc2 : c ≤ 24) (hm : m ≤ 24) (he : e < c) : F_lot_number [.int c, .int m, .int e] = .ok (.val (.int (g e : Nat))) := by
  have t := tallied_ok (c := c) (s := m) (h := e) (by omega) (by omega) (by omega) (by omega) (by omega) (by omega)
  have f := fIx_row (c := c) (f := g) he
  have r := rg1T_ok (f := rvT) (c := c) (by omega)
  have s1 : dExpr (eCall 3 F_check_tallied (aCons (dVar 0) (aCons (dVar 1) (aCons (dVar 2) aNil)))) [.val (.int c), .val (.int m), .val (.int e)] = .ok (.next [.val (.int c), .val (.int m), .val (.int e)]) := by simp [t]
  refine runF_ret rfl (σ := [.val (.int c), .val (.int m), .val (.int e)]) ?_
  show d_lot_number [.val (.int c), .val (.int m), .val (.int e)] = _
  refine (seq_ok s1).trans ?_
  simp [j, r, f]
theorem rownumber_gen {g : Nat → Nat} {c m e : Nat} (j : F_rising_ways [.int c, .int m] = .ok (.val (rowD c g))) (hc : 2 ≤ c) (hc2 : c ≤ 24) (hm : m ≤ 24) (he : e < c) : F_row_number [.int c, .int m, .int e] = .ok (.val (.int (g e : Nat))) := by
  have t := tallied_ok (c := c) (s := m) (h := e) (by omega) (by omega) (by omega) (by omega) (by omega) (by omega)
  have f := fIx_row (c := c) (f := g) he
  have s1 : dExpr (eCall 3 F_check_tallied (aCons (dVar 0) (aCons (dVar 1) (aCons (dVar 2) aNil)))) [.val (.int c), .val (.int m), .val (.int e)] = .ok (.next [.val (.int c), .val (.int m), .val (.int e)]) := by simp [t]
  refine runF_ret rfl (σ := [.val (.int c), .val (.int m), .val (.int e)]) ?_
  show d_row_number [.val (.int c), .val (.int m), .val (.int e)] = _
  refine (seq_ok s1).trans ?_
  simp [j, f]
theorem lotnumber_ok {c m e : Nat} (hc : 2 ≤ c) (hc2 : c ≤ 24) (hm : m ≤ 24) (he : e < c) : F_lot_number [.int c, .int m, .int e] = .ok (.val (.int (TW false c c m e : Nat))) := lotnumber_gen (just_ok hc hc2 hm) hc hc2 hm he
theorem rownumber_ok {c m e : Nat} (hc : 2 ≤ c) (hc2 : c ≤ 24) (hm : m ≤ 24) (he : e < c) : F_row_number [.int c, .int m, .int e] = .ok (.val (.int (TW true c c m e : Nat))) := rownumber_gen (rise_ok hc hc2 hm) hc hc2 hm he
/-! ### the greatest common divisor -/
theorem common_loop : ∀ (n a b : Nat), b < n → dWh (tBl (PL.e2 (fI0 fun i j => .bl (decide (j < i))) (dVar 1) (dC (.int 0)))) b_law_common_1 n [.val (.int a), .val (.int b)] = .ok (.next [.val (.int (Nat.gcd a b : Nat)), .val (.int 0)])
  | 0, a, b, h => absurd h (Nat.not_lt_zero _)
  | n + 1, a, 0, h => by
    rw [wh_end (s := [.val (.int a), .val (.int (0 : Nat))]) (by simp), Nat.gcd_zero_right]
    rfl
  | n + 1, a, b + 1, h => by
    have hp : bPos (a : Int) ((b : Int) + 1) = true := bPos_of (by omega)
    have hm : (a : Int) % ((b : Int) + 1) = ((a % (b + 1) : Nat) : Int) := by rw [Int.natCast_emod, Int.natCast_add]; rfl
    rw [wh_go (s := [.val (.int a), .val (.int ((b + 1 : Nat) : Int))]) (s' := [.val (.int ((b + 1 : Nat) : Int)), .val (.int ((a % (b + 1) : Nat) : Int))]) (by simp) (by simp [b_law_common_1, hp])]
    have hlt : a % (b + 1) < b + 1 := Nat.mod_lt _ (by omega)
    rw [common_loop n (b + 1) (a % (b + 1)) (by omega), Nat.gcd_comm a (b + 1), Nat.gcd_rec (b + 1) a, Nat.gcd_comm]
theorem common_ok {a b : Nat} (hb : b < 100) : F_law_common [.int a, .int b] = .ok (.val (.int (Nat.gcd a b : Nat))) := by
  refine runF_ret rfl (σ := [.val (.int (Nat.gcd a b : Nat)), .val (.int 0)]) ?_
  show d_law_common [.val (.int a), .val (.int b)] = _
  refine (seq_ok (common_loop 100 a b hb)).trans ?_
  simp
end PL
namespace PL
open PySem PySem.Spec PyProof.Rows L2
theorem log2_small {n : Nat} (h : n < 10 ^ 20) : n.log2 < 67 := by
  by_cases h0 : n = 0
  · subst h0
    decide
  · rw [Nat.log2_lt h0]
    exact Nat.lt_of_lt_of_le h (by decide)
theorem shown_small {a : Nat} (h : a < 10 ^ 20) : (PyData.int (a : Int)).shown.length ≤ 21 := by
  rw [PyData.shown_int]
  exact Nat.le_succ_of_le (toString_length_le (v := (a : Int)) (k := 20) (by omega) (by decide) (by exact_mod_cast h))
theorem repr4 {a b : Nat} (ha : a < 10 ^ 20) (hb : b < 10 ^ 20) : ∃ s, fRepr [.lst [.int a, .int a, .int b, .int b]] = some (.val (.str s)) := by
  have la := log2_small ha
  have lb := log2_small hb
  have w : (PyData.list [.int a, .int a, .int b, .int b]).weight ≤ 1000 := by
    simp only [PyData.weight, PyData.weightAll]
    have wa : (if ((a : Int) == 0) = true then 0 else (a : Int).natAbs.log2 + 1) ≤ 67 := by
      split
      · omega
      · rw [Int.natAbs_natCast]; omega
    have wb : (if ((b : Int) == 0) = true then 0 else (b : Int).natAbs.log2 + 1) ≤ 67 := by
      split
      · omega
      · rw [Int.natAbs_natCast]; omega
    omega
  have s1 : (PyData.list [.int a, .int a, .int b, .int b]).showable = true := by
    simp only [PyData.showable, PyData.showableAll, Int.natAbs_natCast, Bool.and_true, Bool.and_eq_true, decide_eq_true_eq]
    omega
  have s2 : (PyData.list [.int a, .int a, .int b, .int b]).leavesShort 21 = true := by
    simp only [PyData.leavesShort, PyData.leavesShortAll, Bool.and_true, Bool.and_eq_true, decide_eq_true_eq]
    exact ⟨shown_small ha, shown_small ha, shown_small hb, shown_small hb⟩
  have s3 : (PyData.list [.int a, .int a, .int b, .int b]).shown.length ≤ sizeLine := by
    have := PyData.shown_le 21 (by decide) _ s2
    have e := sizeLine_eq
    omega
  refine ⟨(PyData.list [.int a, .int a, .int b, .int b]).shown, ?_⟩
  have e : toPy (.lst [.int a, .int a, .int b, .int b]) = some (.list [.int a, .int a, .int b, .int b]) := rfl
  unfold fRepr
  dsimp only
  rw [e]
  dsimp only
  rw [if_pos ⟨s1, rfl, by simp [PyData.depth, PyData.depthAll], s3⟩]
end PL
namespace PL
open PySem PySem.Spec PyProof.Rows L2
theorem fEq_int {neg : Bool} {a b : Int} : fEq neg (.int a) (.int b) = some (.val (.bl (if neg = true then !(a == b) else a == b))) := by
  simp [fEq, toPy, shp, SeqAt.shaped, PyData.canLay0, PyData.depth, PyData.eqv]
theorem fEqS_same {s : Str} : fEqS true (.str s) (.str s) = some (.val (.bl false)) := by
  simp [fEqS]
theorem if_no {dt : DT} {d1 d2 : DS} {σ s : PSt} {r : Res Out} (h : dt σ = .ok (false, s)) (h2 : d2 s = r) : dIf dt d1 d2 σ = r := by rw [ap_if, h, Res.bind_ok, ifC_f, h2]
theorem if_yes {dt : DT} {d1 d2 : DS} {σ s : PSt} {r : Res Out} (h : dt σ = .ok (true, s)) (h2 : d1 s = r) : dIf dt d1 d2 σ = r := by rw [ap_if, h, Res.bind_ok, ifC_t, h2]
section
variable {c : Nat} {L R : Nat → Nat → Nat} {xs : List D} {x5 x6 x7 : SV} {k : Int} {s e : Nat}
def rSt (c : Nat) (L R : Nat → Nat → Nat) (xs : List D) (k : Int) (x5 x6 x7 : SV) : PSt := [.own true xs, .val (.int c), .val (.lst (tabD c L 25)), .val (.lst (tabD c R 25)), .val (.int k), x5, x6, x7]
theorem r_size (hc : 2 ≤ c) (hc2 : c ≤ 24) (hu : Urn xs) (h5 : UV x5) : ∃ (s : Nat) (ys : List D), s ≤ 24 ∧ Urn ys ∧ dSet 5 (eCallU 2 U_law_of 0 (aCons (eLst (aCons (dC (.int 0)) (aCons (dVar 1) (aCons (dC (.int 24)) (aCons (eCallU 2 U_law_take 0 (aCons (dC (.int 25)) aNil)) (aCons (eCallU 2 U_law_take 0 (aCons (PL.e2 fAdd (dVar 1) (dC (.int 1))) aNil)) aNil)))))) aNil)) (rSt c L R xs k x5 x6 x7) = .ok (.next (rSt c L R ys k (.val (.int s)) x6 x7)) := by
  obtain ⟨a, y1, e1, u1, a0, a1⟩ := take_ok (many := 25) hu (by decide) (by decide)
  obtain ⟨b, y2, e2, u2, b0, b1⟩ := take_ok (many := (c : Int) + 1) u1 (by omega) (by omega)
  obtain ⟨d, y3, e3, u3, hm⟩ := of_ok (ds := [.int 0, .int c, .int 24, .int a, .int b]) u2 (by simp) (by simp)
  have hd : ∃ s : Nat, d = .int s ∧ s ≤ 24 := by
    simp only [List.mem_cons, List.not_mem_nil, or_false] at hm
    rcases hm with rfl | rfl | rfl | rfl | rfl
    · exact ⟨0, rfl, by omega⟩
    · exact ⟨c, rfl, hc2⟩
    · exact ⟨24, rfl, by omega⟩
    · exact ⟨a.toNat, by rw [Int.toNat_of_nonneg a0], by omega⟩
    · exact ⟨b.toNat, by rw [Int.toNat_of_nonneg b0], by omega⟩
  obtain ⟨s, rfl, hs⟩ := hd
  refine ⟨s, y3, hs, u3, ?_⟩
  unfold rSt
  simp [e1, e2, e3, most, setK_uv h5]
theorem r_hour (hc : 2 ≤ c) (hc2 : c ≤ 24) (hu : Urn xs) (h6 : UV x6) : ∃ (e : Nat) (ys : List D), e < c ∧ Urn ys ∧ dSet 6 (eCallU 2 U_law_take 0 (aCons (dVar 1) aNil)) (rSt c L R xs k x5 x6 x7) = .ok (.next (rSt c L R ys k x5 (.val (.int e)) x7)) := by
  obtain ⟨a, y1, e1, u1, a0, a1⟩ := take_ok (many := (c : Int)) hu (by omega) (by omega)
  refine ⟨a.toNat, y1, by omega, u1, ?_⟩
  unfold rSt
  simp [e1, setK_uv h6, Int.toNat_of_nonneg a0]
theorem r_told1 (hL : F_lot_number [.int c, .int s, .int e] = .ok (.val (.int (L s e : Nat)))) (h7 : UV x7) : dSet 7 (eLst (aCons (eCall 3 F_lot_number (aCons (dVar 1) (aCons (dVar 5) (aCons (dVar 6) aNil)))) (aCons (eCallK 3 F_lot_number [2, 1, 0] (aCons (dVar 6) (aCons (dVar 5) (aCons (dVar 1) aNil)))) aNil))) (rSt c L R xs k (.val (.int s)) (.val (.int e)) x7) =
    .ok (.next (rSt c L R xs k (.val (.int s)) (.val (.int e)) (.val (.lst [.int (L s e : Nat), .int (L s e : Nat)])))) := by
  unfold rSt
  simp [hL, most, setK_uv h7]
theorem r_told2 (hR : F_row_number [.int c, .int s, .int e] = .ok (.val (.int (R s e : Nat)))) : dSet 7 (PL.e2 fAdd (dVar 7) (eLst (aCons (eCall 3 F_row_number (aCons (dVar 1) (aCons (dVar 5) (aCons (dVar 6) aNil)))) (aCons (eCallK 3 F_row_number [2, 1, 0] (aCons (dVar 6) (aCons (dVar 5) (aCons (dVar 1) aNil)))) aNil)))) (rSt c L R xs k (.val (.int s)) (.val (.int e)) (.val (.lst [.int (L s e : Nat), .int (L s e : Nat)]))) =
    .ok (.next (rSt c L R xs k (.val (.int s)) (.val (.int e)) (.val (.lst [.int (L s e : Nat), .int (L s e : Nat), .int (R s e : Nat), .int (R s e : Nat)])))) := by
  unfold rSt
  simp [hR, most]
theorem r_repr (he : e < c) (hs : s ≤ 24) (bL : L s e < 10 ^ 20) (bR : R s e < 10 ^ 20) : tBl (PL.e2 (fEqS true) (eL fRepr (aCons (dVar 7) aNil)) (eL fRepr (aCons (PL.e2 fAdd (PL.e2 fMul (eLst (aCons (PL.e2 fIx (eIxO 2 (dVar 5)) (dVar 6)) aNil)) (dC (.int 2))) (PL.e2 fMul (eLst (aCons (PL.e2 fIx (eIxO 3 (dVar 5)) (dVar 6)) aNil)) (dC (.int 2)))) aNil))) (rSt c L R xs k (.val (.int s)) (.val (.int e)) (.val (.lst [.int (L s e : Nat), .int (L s e : Nat), .int (R s e : Nat), .int (R s e : Nat)]))) =
    .ok (false, rSt c L R xs k (.val (.int s)) (.val (.int e)) (.val (.lst [.int (L s e : Nat), .int (L s e : Nat), .int (R s e : Nat), .int (R s e : Nat)]))) := by
  obtain ⟨t, ht⟩ := repr4 bL bR
  have f1 : fIx (.lst (tabD c L 25)) (.int (s : Int)) = some (.val (rowD c (L s))) := fIx_tab (by omega)
  have f2 : fIx (.lst (tabD c R 25)) (.int (s : Int)) = some (.val (rowD c (R s))) := fIx_tab (by omega)
  have f3 : fIx (rowD c (L s)) (.int (e : Int)) = some (.val (.int (L s e : Nat))) := fIx_row he
  have f4 : fIx (rowD c (R s)) (.int (e : Int)) = some (.val (.int (R s e : Nat))) := fIx_row he
  have m : ∀ x : D, fMul (.lst [x]) (.int 2) = some (.own [x, x]) := fun x => rep_ok (n := 2) (by decide)
  unfold rSt
  simp [f1, f2, f3, f4, m, ht, most, fEqS_same, -fIx_lst, -fMul_lst]
theorem r_recip {x7 : SV} (hc : 2 ≤ c) (hs : s ≤ 24) (hR : F_row_number [.int c, .int s, .int 0] = .ok (.val (.int (R s 0 : Nat)))) (hX : 2 ≤ s → F_row_number [.int s, .int c, .int 0] = .ok (.val (.int (R s 0 : Nat)))) : tAnd2 (tBl (PL.e2 (fI0 fun i j => .bl (decide (j < i))) (dVar 5) (dC (.int 1)))) (tBl (PL.e2 (fEq true) (eCall 3 F_row_number (aCons (dVar 1) (aCons (dVar 5) (aCons (dC (.int 0)) aNil)))) (eCall 3 F_row_number (aCons (dVar 5) (aCons (dVar 1) (aCons (dC (.int 0)) aNil)))))) (rSt c L R xs k (.val (.int s)) x6 x7) =
    .ok (false, rSt c L R xs k (.val (.int s)) x6 x7) := by
  unfold rSt
  by_cases h : 1 < s
  · have h' : (1 : Int) < (s : Int) := by omega
    simp [h', hR, hX h, fEq_int]
  · have h' : ¬ (1 : Int) < (s : Int) := by omega
    simp [h']
theorem r_even {x7 : SV} (hc : 2 ≤ c) (he : e < c) (hs : s ≤ 24) (hL : F_lot_number [.int c, .int s, .int e] = .ok (.val (.int (L s e : Nat)))) (hL0 : F_lot_number [.int c, .int s, .int 0] = .ok (.val (.int (L s 0 : Nat)))) (hE : 0 < s → s ≤ c → Nat.gcd c s = 1 → L s e = L s 0) :
    dIf (tAnd2 (tBl (eChain (fI0 fun i j => .bl (decide (i < j))) (fI0 fun i j => .bl (decide (i ≤ j))) (dC (.int 0)) (dVar 5) (dVar 1))) (tBl (PL.e2 (fEq false) (eCall 2 F_law_common (aCons (dVar 1) (aCons (dVar 5) aNil))) (dC (.int 1))))) (dIf (tBl (PL.e2 (fEq true) (eCall 3 F_lot_number (aCons (dVar 1) (aCons (dVar 5) (aCons (dVar 6) aNil)))) (eCall 3 F_lot_number (aCons (dVar 1) (aCons (dVar 5) (aCons (dC (.int 0)) aNil)))))) (dRet (dC (.bl false))) dNil) dNil (rSt c L R xs k (.val (.int s)) (.val (.int e)) x7) =
    .ok (.next (rSt c L R xs k (.val (.int s)) (.val (.int e)) x7)) := by
  have g := common_ok (a := c) (b := s) (by omega)
  have ch : eChain (fI0 fun i j => .bl (decide (i < j))) (fI0 fun i j => .bl (decide (i ≤ j))) (dC (.int 0)) (dVar 5) (dVar 1) (rSt c L R xs k (.val (.int s)) (.val (.int e)) x7) = .ok (.val (.bl (decide (0 < s ∧ s ≤ c))), rSt c L R xs k (.val (.int s)) (.val (.int e)) x7) := by
    unfold eChain rSt
    by_cases h0 : 0 < s
    · by_cases h1 : s ≤ c
      · simp [h0, h1, show (0 : Int) < (s : Int) by omega, show (s : Int) ≤ (c : Int) by omega]
      · simp [h0, h1, show (0 : Int) < (s : Int) by omega, show ¬ (s : Int) ≤ (c : Int) by omega]
    · have : s = 0 := by omega
      subst this
      simp
  by_cases h : 0 < s ∧ s ≤ c
  · by_cases hg : Nat.gcd c s = 1
    · refine if_yes (s := rSt c L R xs k (.val (.int s)) (.val (.int e)) x7) ?_ (if_no (s := rSt c L R xs k (.val (.int s)) (.val (.int e)) x7) ?_ rfl)
      · rw [ap_and2, ap_tBl, ch, Res.bind_ok, blK_bl, decide_eq_true h, Res.bind_ok, and2C_t]
        unfold rSt
        simp [g, hg, fEq_int]
      · unfold rSt
        simp [hL, hL0, hE h.1 h.2 hg, fEq_int]
    · refine if_no (s := rSt c L R xs k (.val (.int s)) (.val (.int e)) x7) ?_ rfl
      rw [ap_and2, ap_tBl, ch, Res.bind_ok, blK_bl, decide_eq_true h, Res.bind_ok, and2C_t]
      unfold rSt
      have hg' : ¬ ((Nat.gcd c s : Nat) : Int) = 1 := by omega
      simp [g, hg', fEq_int]
  · refine if_no (s := rSt c L R xs k (.val (.int s)) (.val (.int e)) x7) ?_ rfl
    rw [ap_and2, ap_tBl, ch, Res.bind_ok, blK_bl, decide_eq_false h, Res.bind_ok, and2C_f]
theorem right_turn (hc : 2 ≤ c) (hc2 : c ≤ 24) (hL : ∀ s e : Nat, s ≤ 24 → e < c → F_lot_number [.int c, .int s, .int e] = .ok (.val (.int (L s e : Nat)))) (hR : ∀ s e : Nat, s ≤ 24 → e < c → F_row_number [.int c, .int s, .int e] = .ok (.val (.int (R s e : Nat))))
    (hX : ∀ s : Nat, s ≤ 24 → 2 ≤ s → F_row_number [.int s, .int c, .int 0] = .ok (.val (.int (R s 0 : Nat)))) (hE : ∀ s e, e < c → 0 < s → s ≤ c → Nat.gcd c s = 1 → L s e = L s 0) (bL : ∀ s e, s ≤ 24 → L s e < 10 ^ 20) (bR : ∀ s e, s ≤ 24 → R s e < 10 ^ 20)
    (hu : Urn xs) (h5 : UV x5) (h6 : UV x6) (h7 : UV x7) : ∃ ys y5 y6 y7, Urn ys ∧ UV y5 ∧ UV y6 ∧ UV y7 ∧ b_law_right_1 (rSt c L R xs k x5 x6 x7) = .ok (.next (rSt c L R ys k y5 y6 y7)) := by
  obtain ⟨s, y1, hs, u1, q1⟩ := r_size (L := L) (R := R) (k := k) (x6 := x6) (x7 := x7) hc hc2 hu h5
  obtain ⟨e, y2, he, u2, q2⟩ := r_hour (L := L) (R := R) (k := k) (x5 := .val (.int s)) (x7 := x7) hc hc2 u1 h6
  refine ⟨y2, .val (.int s), .val (.int e), .val (.lst [.int (L s e : Nat), .int (L s e : Nat), .int (R s e : Nat), .int (R s e : Nat)]), u2, .val, .val, .val, ?_⟩
  unfold b_law_right_1
  refine (seq_ok q1).trans ((seq_ok q2).trans ((seq_ok (r_told1 (hL s e hs he) h7)).trans ((seq_ok (r_told2 (hR s e hs he))).trans ((seq_ok (if_no (r_repr he hs (bL s e hs) (bR s e hs)) rfl)).trans ((seq_ok (if_no (r_recip hc hs (hR s 0 hs (by omega)) (hX s hs)) rfl)).trans (r_even hc he hs (hL s e hs he) (hL s 0 hs (by omega)) (hE s e he)))))))
theorem right_gen (hc : 2 ≤ c) (hc2 : c ≤ 24) (hL : ∀ s e : Nat, s ≤ 24 → e < c → F_lot_number [.int c, .int s, .int e] = .ok (.val (.int (L s e : Nat)))) (hR : ∀ s e : Nat, s ≤ 24 → e < c → F_row_number [.int c, .int s, .int e] = .ok (.val (.int (R s e : Nat))))
    (hX : ∀ s : Nat, s ≤ 24 → 2 ≤ s → F_row_number [.int s, .int c, .int 0] = .ok (.val (.int (R s 0 : Nat)))) (hE : ∀ s e, e < c → 0 < s → s ≤ c → Nat.gcd c s = 1 → L s e = L s 0) (bL : ∀ s e, s ≤ 24 → L s e < 10 ^ 20) (bR : ∀ s e, s ≤ 24 → R s e < 10 ^ 20)
    (cL : F_law_counted [.int c, .int 24, .bl false] = .ok (.val (.lst (tabD c L 25)))) (cR : F_law_counted [.int c, .int 24, .bl true] = .ok (.val (.lst (tabD c R 25)))) {ys : List D}
    (hu : Urn xs) (e : U_law_clock xs [.int 24] = .ok (.val (.int c), ys)) (uy : Urn ys) : ∃ zs, U_law_right xs [] = .ok (.val (.bl true), zs) := by
  have s1 : dSet 1 (eCallU 2 U_law_clock 0 (aCons (dC (.int 24)) aNil)) [.own true xs, .un, .un, .un, .un, .un, .un, .un] = .ok (.next [.own true ys, .val (.int c), .un, .un, .un, .un, .un, .un]) := by simp [e]
  have s2 : dPut [(2, false), (3, false)] (roCons (eCall 3 F_law_counted (aCons (dVar 1) (aCons (dC (.int 24)) (aCons (dC (.bl false)) aNil)))) (roCons (eCall 3 F_law_counted (aCons (dVar 1) (aCons (dC (.int 24)) (aCons (dC (.bl true)) aNil)))) roNil)) [.own true ys, .val (.int c), .un, .un, .un, .un, .un, .un] =
      .ok (.next [.own true ys, .val (.int c), .val (.lst (tabD c L 25)), .val (.lst (tabD c R 25)), .un, .un, .un, .un]) := by simp [cL, cR]
  obtain ⟨σ', q, zs, y4, y5, y6, y7, uz, g4, g5, g6, g7, rfl⟩ := for_nat (v := 4) (db := b_law_right_1) (σ := [.own true ys, .val (.int c), .val (.lst (tabD c L 25)), .val (.lst (tabD c R 25)), .un, .un, .un, .un]) (di := iRange1 (aCons (dC (.int 4)) aNil)) (n := 4) (f := fun k => D.int (k : Nat))
    (fun k σ => ∃ zs y4 y5 y6 y7, Urn zs ∧ UV y4 ∧ UV y5 ∧ UV y6 ∧ UV y7 ∧ σ = [.own true zs, .val (.int c), .val (.lst (tabD c L 25)), .val (.lst (tabD c R 25)), y4, y5, y6, y7])
    (rg1_ok (c := 4) (by omega) rfl) ⟨ys, _, _, _, _, uy, .un, .un, .un, .un, rfl⟩ fun k τ hk ⟨zs, y4, y5, y6, y7, uz, g4, g5, g6, g7, e⟩ => by
      subst e
      refine ⟨g4.get rfl, ?_⟩
      obtain ⟨ws, z5, z6, z7, uw, k5, k6, k7, q⟩ := right_turn (k := (k : Nat)) hc hc2 hL hR hX hE bL bR uz g5 g6 g7
      exact ⟨_, q, ws, .val (.int (k : Nat)), z5, z6, z7, uw, .val, k5, k6, k7, rfl⟩
  refine ⟨zs, runU_ret (σ := [.own true zs, .val (.int c), .val (.lst (tabD c L 25)), .val (.lst (tabD c R 25)), y4, y5, y6, y7]) rfl ?_ rfl⟩
  show d_law_right [.own true xs, .un, .un, .un, .un, .un, .un, .un] = _
  refine (seq_ok s1).trans ((seq_ok s2).trans ((seq_ok q).trans ?_))
  simp
end
theorem right_ok (xs : List D) (hu : Urn xs) : ∃ zs, U_law_right xs [] = .ok (.val (.bl true), zs) := by
  obtain ⟨ci, ys, e, uy, c0, c1⟩ := clock_ok (top := 24) hu (by decide) (by decide)
  obtain ⟨c, rfl⟩ : ∃ c : Nat, ci = c := ⟨ci.toNat, by omega⟩
  have hc : 2 ≤ c := by omega
  have hc2 : c ≤ 24 := by omega
  have p1 : (2 : Nat) ^ 24 < 10 ^ 20 := by decide
  have p2 : (2 : Nat) ^ 48 < 10 ^ 20 := by decide
  refine right_gen (L := TW false c c) (R := TW true c c) hc hc2 (fun s e hs he => lotnumber_ok hc hc2 hs he) (fun s e hs he => rownumber_ok hc hc2 hs he) (fun s hs h2 => ?_) (fun s e he h0 h1 hg => ?_) (fun s e hs => ?_) (fun s e hs => ?_) (counted_ok (b := false) (m := 24) hc hc2 (Nat.le_refl _)) (counted_ok (b := true) (m := 24) hc hc2 (Nat.le_refl _)) hu e uy
  · have r := rownumber_ok (c := s) (m := c) (e := 0) h2 hs hc2 (by omega)
    have q : TW true s s c 0 = TW true c c s 0 := (recip_of hc hc2 h2 hs).symm
    rw [q] at r
    exact r
  · exact evenL_of hc hc2 h0 h1 hg he
  · have h1 : TW false c c s e ≤ 2 ^ c := lotsW_le c c s e
    have h2 : 2 ^ c ≤ 2 ^ 24 := Nat.pow_le_pow_right (by decide) hc2
    exact Nat.lt_of_le_of_lt (Nat.le_trans h1 h2) p1
  · have h1 : TW true c c s e ≤ 2 ^ (c + s) := rowsW_le c c s e
    have h2 : 2 ^ (c + s) ≤ 2 ^ 48 := Nat.pow_le_pow_right (by decide) (by omega)
    exact Nat.lt_of_le_of_lt (Nat.le_trans h1 h2) p2
theorem law_true : LawTrue 63 F_law := law_true_of right_ok
end PL
open PySem PySem.W PyProof.Rows PL
set_option maxHeartbeats 0 in
theorem PySem.Challenge.cw_hourpicks_k54_whole_numbers_of_lots_and_holds : PySem.Challenge.rw_hourpicks_k54_whole_numbers_of_lots_and.Holds := by
  w_on; o_law; k_head; (case hw => w_witness2)
  k_fill
  refine walk_G (l := PySem.Challenge.rw_hourpicks_k54_whole_numbers_of_lots_and) (n := 63) (k := 8) (x := "script") (F := F_law) rfl (by decide) rfl ⟨rfl, by decide, by decide⟩ (fun w h Y => PySem.W.kIn_of Y) ?F law_true
  case F =>
    intro w mg fa h KX G hmg
    refine law_mk hmg ?e
    obtain ⟨T, e1, hb⟩ := (by
      refine' gs_mk KX G ?a0 ?l0 ?c0 ?k0 ?a1 ?l1 ?c1 ?k1 ?a2 ?l2 ?c2 ?k2 ?a3 ?l3 ?c3 ?k3 ?a4 ?l4 ?c4 ?k4 ?a5 ?l5 ?c5 ?k5 ?a6 ?l6 ?c6 ?k6 ?a7 ?l7 ?c7 ?k7 ?a8 ?l8 ?c8 ?k8 ?a9 ?l9 ?c9 ?k9 ?a10 ?l10 ?c10 ?k10 ?a11 ?l11 ?c11 ?k11 ?a12 ?l12 ?c12 ?k12 ?a13 ?l13 ?c13 ?k13 ?a14 ?l14 ?c14 ?k14 ?a15 ?l15 ?c15 ?k15 ?a16 ?l16 ?c16 ?k16 ?a17 ?l17 ?c17 ?k17 ?a18 ?l18 ?c18 ?k18 ?a19 ?l19 ?c19 ?k19 ?a20 ?l20 ?c20 ?k20 ?z_divmod ?z_int ?z_len ?z_range ?z_bool ?z_isinstance ?z_tuple ?z_repr ?z_abs ?z_min ?z_max ?z_all ?n_MOST_CLOCK ?n_LEAST_CLOCK ?n_MOST_NUMBER
      (case a0 => k_is); (case l0 => k_is); (case c0 => k_is); (case k0 => k_is); (case a1 => k_is); (case l1 => k_is); (case c1 => k_is); (case k1 => k_is); (case a2 => k_is); (case l2 => k_is); (case c2 => k_is); (case k2 => k_is); (case a3 => k_is); (case l3 => k_is); (case c3 => k_is); (case k3 => k_is); (case a4 => k_is); (case l4 => k_is); (case c4 => k_is); (case k4 => k_is); (case a5 => k_is); (case l5 => k_is); (case c5 => k_is); (case k5 => k_is); (case a6 => k_is); (case l6 => k_is); (case c6 => k_is); (case k6 => k_is); (case a7 => k_is); (case l7 => k_is); (case c7 => k_is); (case k7 => k_is); (case a8 => k_is); (case l8 => k_is); (case c8 => k_is); (case k8 => k_is); (case a9 => k_is); (case l9 => k_is); (case c9 => k_is); (case k9 => k_is); (case a10 => k_is); (case l10 => k_is); (case c10 => k_is); (case k10 => k_is); (case a11 => k_is); (case l11 => k_is); (case c11 => k_is); (case k11 => k_is); (case a12 => k_is); (case l12 => k_is); (case c12 => k_is); (case k12 => k_is); (case a13 => k_is); (case l13 => k_is); (case c13 => k_is); (case k13 => k_is); (case a14 => k_is); (case l14 => k_is); (case c14 => k_is); (case k14 => k_is); (case a15 => k_is); (case l15 => k_is); (case c15 => k_is); (case k15 => k_is); (case a16 => k_is); (case l16 => k_is); (case c16 => k_is); (case k16 => k_is); (case a17 => k_is); (case l17 => k_is); (case c17 => k_is); (case k17 => k_is); (case a18 => k_is); (case l18 => k_is); (case c18 => k_is); (case k18 => k_is); (case a19 => k_is); (case l19 => k_is); (case c19 => k_is); (case k19 => k_is); (case a20 => k_is); (case l20 => k_is); (case c20 => k_is); (case k20 => k_is); (case z_divmod => k_is); (case z_int => k_is); (case z_len => k_is); (case z_range => k_is); (case z_bool => k_is); (case z_isinstance => k_is); (case z_tuple => k_is); (case z_repr => k_is); (case z_abs => k_is); (case z_min => k_is); (case z_max => k_is); (case z_all => k_is); (case n_MOST_CLOCK => k_is); (case n_LEAST_CLOCK => k_is); (case n_MOST_NUMBER => k_is) : ∃ T : Gs _ mg, T.a_law = _ ∧ (∀ (s : Shared) (v : Value), BindsTo s T.d_law ⟨[v], []⟩ [("script", v)]))
    exact ⟨T, _, e1, hb⟩
