import PyProof.Rows.All
import Wide.All
import OpenK.AllK
import Wide.FinOn
import HandS.ForMost
import HandS.ForExc
import HandS.Evl
import HandS.Walk
import HandS.IsInst
import HandS.TupAny
import HandS.TupMul
import HandS.Wide
import HandS.Style
import HandS.Deep
import HandS.Sort
import HandS.SortInts
import HandS.More
import KE.GoesMore
import KE.GoesEnum
import HandS.Conv
import HandS.Zip
import HandS.Iter
import KE.KeyNested
import KE.KDictKeyed
import KE.KDictWalk
import KE.KDictCopyH
import KE.KDictList
import KE.KDictDisplayH
import HandS.Ends
import PySem.Challenge.RW_joinedasks_k74_whole_none_where_none_fit
set_option Elab.async false
set_option linter.all false
set_option maxRecDepth 100000
set_option maxHeartbeats 4000000
/-! Mirror layer, part A: plain data, what a slot holds, how a heap bears them. -/
namespace Mir
open PySem PySem.Spec L2

/-! ### data -/
inductive D where
  | non | bl (b : Bool) | int (i : Int) | str (s : Str)
  | tup (xs : List D) | lst (xs : List D) | dct (kvs : List (D × D)) | ins (c : Str) (fs : List (Str × D)) | scr (ns : List Int)

/-- what was known stays -/
abbrev Ex (H H' : Hp) : Prop := Evl.Ex H H'

mutual
/-- the value v bears the datum d in H (for ever, while H stays) -/
inductive Rep (K : PySem.W.Frag) (ca : Str → Addr) (H : Hp) : V → D → Prop
  | non : Rep K ca H .non .non
  | bl (b : Bool) : Rep K ca H (.bl b) (.bl b)
  | int (i : Int) : Rep K ca H (.int i) (.int i)
  | str (s : Str) : Rep K ca H (.str s) (.str s)
  | tup {a : Addr} {xs : List V} {ds : List D} : SqT K H a xs → RepA K ca H xs ds → Rep K ca H (.ref a) (.tup ds)
  | lst {a : Addr} {xs : List V} {ds : List D} : H a = some (.lst xs) → RepA K ca H xs ds → Rep K ca H (.ref a) (.lst ds)
  | scr {a : Addr} {ns : List Int} : SqL K H a (ns.map V.int) → Rep K ca H (.ref a) (.scr ns)
  | dct0 {a : Addr} : H a = some (.dK []) → Rep K ca H (.ref a) (.dct [])
  | ins {a dx : Addr} {c : Str} {fs : List (Str × V)} {ds : List (Str × D)} : H a = some (.ins (ca c) dx fs) → RepF K ca H fs ds → Rep K ca H (.ref a) (.ins c ds)
inductive RepA (K : PySem.W.Frag) (ca : Str → Addr) (H : Hp) : List V → List D → Prop
  | nil : RepA K ca H [] []
  | cons {v : V} {vs : List V} {d : D} {ds : List D} : Rep K ca H v d → RepA K ca H vs ds → RepA K ca H (v :: vs) (d :: ds)
inductive RepF (K : PySem.W.Frag) (ca : Str → Addr) (H : Hp) : List (Str × V) → List (Str × D) → Prop
  | nil : RepF K ca H [] []
  | cons {f : Str} {v : V} {vs : List (Str × V)} {d : D} {ds : List (Str × D)} : Rep K ca H v d → RepF K ca H vs ds → RepF K ca H ((f, v) :: vs) ((f, d) :: ds)
end

section
variable {K : PySem.W.Frag} {ca : Str → Addr} {H H' : Hp}
mutual
theorem Rep.mono (e : Ex H H') : ∀ {d : D} {v : V}, Rep K ca H v d → Rep K ca H' v d
  | .non, _, .non => .non
  | .bl _, _, .bl b => .bl b
  | .int _, _, .int i => .int i
  | .str _, _, .str s => .str s
  | .tup ds, _, .tup h r => .tup (Evl.ex_t e h) (RepA.mono e r)
  | .lst ds, _, .lst h r => .lst (e _ _ h) (RepA.mono e r)
  | .scr ns, _, .scr h => .scr (Evl.ex_l e h)
  | .dct _, _, .dct0 h => .dct0 (e _ _ h)
  | .ins _ ds, _, .ins h r => .ins (e _ _ h) (RepF.mono e r)
theorem RepA.mono (e : Ex H H') : ∀ {ds : List D} {vs : List V}, RepA K ca H vs ds → RepA K ca H' vs ds
  | [], _, .nil => .nil
  | _ :: _, _, .cons h r => .cons (Rep.mono e h) (RepA.mono e r)
theorem RepF.mono (e : Ex H H') : ∀ {ds : List (Str × D)} {vs : List (Str × V)}, RepF K ca H vs ds → RepF K ca H' vs ds
  | [], _, .nil => .nil
  | _ :: _, _, .cons h r => .cons (Rep.mono e h) (RepF.mono e r)
end
theorem RepA.length : ∀ {ds : List D} {vs : List V}, RepA K ca H vs ds → vs.length = ds.length
  | [], _, .nil => rfl
  | _ :: _, _, .cons _ r => by rw [List.length_cons, List.length_cons, RepA.length r]
theorem RepA.get : ∀ {ds : List D} {vs : List V} {i : Nat} {d : D}, RepA K ca H vs ds → ds[i]? = some d → ∃ v, vs[i]? = some v ∧ Rep K ca H v d
  | [], _, i, _, .nil, e => by simp at e
  | x :: _, _, 0, d, .cons h _, e => by
    simp at e
    subst e
    exact ⟨_, rfl, h⟩
  | _ :: _, _, i + 1, d, .cons _ r, e => by
    obtain ⟨v, h1, h2⟩ := RepA.get (i := i) r (by simpa using e)
    exact ⟨v, by simpa using h1, h2⟩
theorem RepA.get_v : ∀ {ds : List D} {vs : List V} {i : Nat} {v : V}, RepA K ca H vs ds → vs[i]? = some v → ∃ d, ds[i]? = some d ∧ Rep K ca H v d
  | [], _, i, _, .nil, e => by simp at e
  | x :: _, _, 0, d, .cons h _, e => by
    simp at e
    subst e
    exact ⟨_, rfl, h⟩
  | _ :: _, _, i + 1, d, .cons _ r, e => by
    obtain ⟨v, h1, h2⟩ := RepA.get_v (i := i) r (by simpa using e)
    exact ⟨v, by simpa using h1, h2⟩
theorem RepA.append : ∀ {ds es : List D} {vs us : List V}, RepA K ca H vs ds → RepA K ca H us es → RepA K ca H (vs ++ us) (ds ++ es)
  | [], _, _, _, .nil, s => s
  | _ :: _, _, _, _, .cons h r, s => .cons h (RepA.append r s)
theorem RepA.take (n : Nat) : ∀ {ds : List D} {vs : List V}, RepA K ca H vs ds → RepA K ca H (vs.take n) (ds.take n) := by
  induction n with
  | zero => intro ds vs _; exact .nil
  | succ n ih =>
    intro ds vs h
    cases h with
    | nil => exact .nil
    | cons h r => exact .cons h (ih r)
theorem RepA.drop (n : Nat) : ∀ {ds : List D} {vs : List V}, RepA K ca H vs ds → RepA K ca H (vs.drop n) (ds.drop n) := by
  induction n with
  | zero => intro ds vs h; exact h
  | succ n ih =>
    intro ds vs h
    cases h with
    | nil => exact .nil
    | cons h r => exact ih r
theorem RepA.set {v : V} {d : D} (h : Rep K ca H v d) : ∀ (i : Nat) {ds : List D} {vs : List V}, RepA K ca H vs ds → RepA K ca H (vs.set i v) (ds.set i d)
  | _, _, _, .nil => .nil
  | 0, _, _, .cons _ r => .cons h r
  | i + 1, _, _, .cons g r => .cons g (RepA.set h i r)
theorem RepA.reverse : ∀ {ds : List D} {vs : List V}, RepA K ca H vs ds → RepA K ca H vs.reverse ds.reverse
  | [], _, .nil => .nil
  | _ :: _, _, .cons h r => by rw [List.reverse_cons, List.reverse_cons]; exact RepA.append (RepA.reverse r) (.cons h .nil)
theorem RepF.look {f : Str} : ∀ {ds : List (Str × D)} {vs : List (Str × V)} {d : D}, RepF K ca H vs ds → ds.lookup f = some d → ∃ v, vs.lookup f = some v ∧ Rep K ca H v d
  | [], _, _, .nil, e => by simp at e
  | (g, x) :: r, _, d, .cons (v := v) h t, e => by
    rw [List.lookup_cons] at e ⊢
    by_cases hf : (f == g) = true
    · rw [hf] at e ⊢
      have e' : x = d := Option.some.inj e
      subst e'
      exact ⟨v, rfl, h⟩
    · have hf' : (f == g) = false := by simpa using hf
      rw [hf'] at e ⊢
      exact RepF.look t e
/-- a datum is borne by one value's shape: flat ones -/
theorem Rep.flat_int {v : V} {i : Int} (h : Rep K ca H v (.int i)) : v = .int i := by cases h; rfl
theorem Rep.flat_bl {v : V} {i : Bool} (h : Rep K ca H v (.bl i)) : v = .bl i := by cases h; rfl
theorem Rep.flat_str {v : V} {i : Str} (h : Rep K ca H v (.str i)) : v = .str i := by cases h; rfl
theorem Rep.flat_non {v : V} (h : Rep K ca H v .non) : v = .non := by cases h; rfl
theorem Rep.of_tup {v : V} {ds : List D} (h : Rep K ca H v (.tup ds)) : ∃ a xs, v = .ref a ∧ SqT K H a xs ∧ RepA K ca H xs ds := by
  cases h with
  | tup h r => exact ⟨_, _, rfl, h, r⟩
theorem Rep.of_lst {v : V} {ds : List D} (h : Rep K ca H v (.lst ds)) : ∃ a xs, v = .ref a ∧ H a = some (.lst xs) ∧ RepA K ca H xs ds := by
  cases h with
  | lst h r => exact ⟨_, _, rfl, h, r⟩
theorem Rep.of_scr {v : V} {ns : List Int} (h : Rep K ca H v (.scr ns)) : ∃ a, v = .ref a ∧ SqL K H a (ns.map V.int) := by
  cases h with
  | scr h => exact ⟨_, rfl, h⟩
theorem Rep.of_ins {v : V} {c : Str} {ds : List (Str × D)} (h : Rep K ca H v (.ins c ds)) : ∃ a dx fs, v = .ref a ∧ H a = some (.ins (ca c) dx fs) ∧ RepF K ca H fs ds := by
  cases h with
  | ins h r => exact ⟨_, _, _, rfl, h, r⟩
end

/-! ### resources: things that change, told by a state of their own -/
class Rsc (ρ : Type) where
  at_ : PySem.W.Frag → (Str → Addr) → ρ → Hp → Hp → V → (Addr → Prop) → Prop
  mono : ∀ {K ca r H0 H0' H H' v F}, at_ K ca r H0 H v F → Ex H0 H0' → (∀ a, F a → H' a = H a) → at_ K ca r H0' H' v F
instance : Rsc Empty := ⟨fun _ _ r _ _ _ _ => r.elim, fun {K ca r} => r.elim⟩

/-- what a slot holds: nothing that is known; a datum for ever; a list of its own; a resource -/
inductive SV (ρ : Type) where
  | no | dat (d : D) | lst (xs : List D) | res (r : ρ)
abbrev Env (ρ : Type) := List (SV ρ)

variable {ρ : Type} [Rsc ρ]

def SlotOk (K : PySem.W.Frag) (ca : Str → Addr) (H0 H : Hp) (o : Option V) (s : SV ρ) (F : Addr → Prop) : Prop :=
  match s with
  | .no => ∀ a, ¬ F a
  | .dat d => (∃ v, o = some v ∧ Rep K ca H0 v d) ∧ ∀ a, ¬ F a
  | .lst xs => ∃ p vs, o = some (.ref p) ∧ H p = some (.lst vs) ∧ RepA K ca H0 vs xs ∧ ∀ a, F a ↔ a = p
  | .res r => ∃ v, o = some v ∧ Rsc.at_ K ca r H0 H v F

theorem SlotOk.mono {K : PySem.W.Frag} {ca : Str → Addr} {H0 H H0' H' : Hp} {o : Option V} {s : SV ρ} {F : Addr → Prop} (h : SlotOk K ca H0 H o s F) (e : Ex H0 H0') (k : ∀ a, F a → H' a = H a) : SlotOk K ca H0' H' o s F := by
  cases s with
  | no => exact h
  | dat d =>
    obtain ⟨⟨v, h1, h2⟩, h3⟩ := h
    exact ⟨⟨v, h1, h2.mono e⟩, h3⟩
  | lst xs =>
    obtain ⟨p, vs, h1, h2, h3, h4⟩ := h
    exact ⟨p, vs, h1, (k p ((h4 p).mpr rfl)).trans h2, h3.mono e, h4⟩
  | res r =>
    obtain ⟨v, h1, h2⟩ := h
    exact ⟨v, h1, Rsc.mono h2 e k⟩

/-- where a def's run began: the heap, its part that stays, what it may change, its pinned slots -/
structure Gam where
  H : Hp
  H0 : Hp
  M : Addr → Prop
  pins : List (Nat × V)

/-- the slots σ bear env in H; H0 is the part that stays; F: which addresses belong to which slot -/
structure EnvF (K : PySem.W.Frag) (ca : Str → Addr) (ps : List Nat) (Γ : Gam) (H0 H : Hp) (σ : St) (env : Env ρ) (F : Nat → Addr → Prop) : Prop where
  len : σ.length = env.length
  sub : Ex H0 H
  base : Ex Γ.H0 H0
  absorb : ∀ a, Γ.H0 a = none → Γ.H a ≠ none → ¬ Γ.M a → H0 a = none
  frame : ∀ a o, Γ.H a = some o → ¬ Γ.M a → H a = some o
  alive : ∀ a, H a = none → Γ.H a = none
  pin : (∀ p ∈ Γ.pins, σ[p.1]? = some (some p.2)) ∧ Γ.pins.map (·.1) = ps
  slot : ∀ i s, env[i]? = some s → SlotOk K ca H0 H (σ[i]?.join) s (F i)
  dis : ∀ i j a, F i a → F j a → i = j
  fp : ∀ i a, F i a → i < env.length ∧ H0 a = none ∧ H a ≠ none ∧ (Γ.H a = none ∨ Γ.M a)
def EnvOk (K : PySem.W.Frag) (ca : Str → Addr) (ps : List Nat) (Γ : Gam) (H0 H : Hp) (σ : St) (env : Env ρ) : Prop := ∃ F, EnvF K ca ps Γ H0 H σ env F
/-- .. and a value v beside, which bears s, with what belongs to it alone -/
def ResOk (K : PySem.W.Frag) (ca : Str → Addr) (ps : List Nat) (Γ : Gam) (H0 H : Hp) (σ : St) (env : Env ρ) (v : V) (s : SV ρ) : Prop :=
  ∃ F G, EnvF K ca ps Γ H0 H σ env F ∧ SlotOk K ca H0 H (some v) s G ∧ (∀ i a, F i a → ¬ G a) ∧ ∀ a, G a → H0 a = none ∧ H a ≠ none ∧ (Γ.H a = none ∨ Γ.M a)

section
variable {K : PySem.W.Frag} {ca : Str → Addr} {ps : List Nat} {Γ : Gam} {H0 H H' : Hp} {σ : St} {env : Env ρ} {F : Nat → Addr → Prop} {p : Addr} {o : HO} {v : V} {d : D} {i : Nat} {s : SV ρ} {vs : List V} {xs : List D}

theorem ex_of_upd {H0 : Hp} (h : H0 p = none) : Ex H0 (upd H0 p o) := Evl.Ex.new h
theorem EnvF.free (E : EnvF K ca ps Γ H0 H σ env F) (hp : H p = none) : H0 p = none := by
  cases q : H0 p with
  | none => rfl
  | some u => rw [E.sub p u q] at hp; cases hp
theorem EnvF.np (E : EnvF K ca ps Γ H0 H σ env F) (hp : H p = none) (i : Nat) (a : Addr) (f : F i a) : a ≠ p := fun z => (E.fp i a f).2.2.1 (by rw [z]; exact hp)

/-- a new object that stays -/
theorem EnvF.grow (E : EnvF K ca ps Γ H0 H σ env F) (hp : H p = none) (o : HO) : EnvF K ca ps Γ (upd H0 p o) (upd H p o) σ env F := by
  have h0 : H0 p = none := E.free hp
  have np := E.np hp
  refine ⟨E.len, fun a u e => ?_, fun a u e => ?_, fun a g1 g2 g3 => ?_, fun a u g1 g2 => ?_, fun a g => ?_, E.pin, fun i s e => (E.slot i s e).mono (ex_of_upd h0) fun a f => upd_ne (np i a f), E.dis, fun i a f => ?_⟩
  · by_cases ha : a = p
    · subst ha; rw [upd_same] at e ⊢; exact e
    · rw [upd_ne ha] at e ⊢; exact E.sub a u e
  · have n : a ≠ p := fun z => by rw [z] at e; rw [E.base p u e] at h0; cases h0
    rw [upd_ne n]; exact E.base a u e
  · have n : a ≠ p := fun z => g2 (by rw [z]; exact E.alive p hp)
    rw [upd_ne n]; exact E.absorb a g1 g2 g3
  · have n : a ≠ p := fun z => by rw [z] at g1; rw [E.alive p hp] at g1; cases g1
    rw [upd_ne n]; exact E.frame a u g1 g2
  · have n : a ≠ p := fun z => by rw [z, upd_same] at g; cases g
    rw [upd_ne n] at g; exact E.alive a g
  · rw [upd_ne (np i a f), upd_ne (np i a f)]
    exact E.fp i a f
/-- a new object of no slot's -/
theorem EnvF.newo (E : EnvF K ca ps Γ H0 H σ env F) (hp : H p = none) (o : HO) : EnvF K ca ps Γ H0 (upd H p o) σ env F := by
  have np := E.np hp
  refine ⟨E.len, fun a u e => ?_, E.base, E.absorb, fun a u g1 g2 => ?_, fun a g => ?_, E.pin, fun i s e => (E.slot i s e).mono (Evl.Ex.refl _) fun a f => upd_ne (np i a f), E.dis, fun i a f => ?_⟩
  · have n : a ≠ p := fun z => by rw [z, E.free hp] at e; cases e
    rw [upd_ne n]; exact E.sub a u e
  · have n : a ≠ p := fun z => by rw [z] at g1; rw [E.alive p hp] at g1; cases g1
    rw [upd_ne n]; exact E.frame a u g1 g2
  · have n : a ≠ p := fun z => by rw [z, upd_same] at g; cases g
    rw [upd_ne n] at g; exact E.alive a g
  · rw [upd_ne (np i a f)]
    exact E.fp i a f
theorem EnvOk.grow (E : EnvOk K ca ps Γ H0 H σ env) (hp : H p = none) (o : HO) : EnvOk K ca ps Γ (upd H0 p o) (upd H p o) σ env ∧ Ex H0 (upd H0 p o) := by
  obtain ⟨F, E⟩ := E
  exact ⟨⟨F, E.grow hp o⟩, ex_of_upd (E.free hp)⟩
/-- a new list of one's own -/
theorem EnvOk.fresh (E : EnvOk K ca ps Γ H0 H σ env) (hp : H p = none) (r : RepA K ca H0 vs xs) : ResOk K ca ps Γ H0 (upd H p (.lst vs)) σ env (.ref p) (.lst xs) := by
  obtain ⟨F, E⟩ := E
  refine ⟨F, fun a => a = p, E.newo hp _, ⟨p, vs, rfl, upd_same, r, fun a => Iff.rfl⟩, fun i a f z => E.np hp i a f z, fun a z => ?_⟩
  subst z
  exact ⟨E.free hp, (by rw [upd_same]; intro z; cases z), .inl (E.alive _ hp)⟩
theorem ResOk.toEnv (E : ResOk K ca ps Γ H0 H σ env v s) : EnvOk K ca ps Γ H0 H σ env := ⟨_, E.choose_spec.choose_spec.1⟩
theorem EnvOk.dat (E : EnvOk K ca ps Γ H0 H σ env) (r : Rep K ca H0 v d) : ResOk K ca ps Γ H0 H σ env v (.dat d) :=
  let ⟨F, E⟩ := E
  ⟨F, fun _ => False, E, ⟨⟨v, rfl, r⟩, fun _ z => z⟩, fun _ _ _ z => z, fun _ z => z.elim⟩
theorem ResOk.rep (E : ResOk K ca ps Γ H0 H σ env v (.dat d)) : Rep K ca H0 v d := by
  obtain ⟨F, G, _, ⟨⟨w, e, r⟩, _⟩, _⟩ := E
  cases e
  exact r
/-- a list of one's own is one for ever -/
theorem ResOk.freeze (E : ResOk K ca ps Γ H0 H σ env v (.lst xs)) : ∃ H0', Ex H0 H0' ∧ EnvOk K ca ps Γ H0' H σ env ∧ Rep K ca H0' v (.lst xs) := by
  obtain ⟨F, G, E, ⟨p, vs, e, hp, r, g⟩, hd, hG⟩ := E
  cases e
  obtain ⟨h0, h1, h2⟩ := hG p ((g p).mpr rfl)
  have np : ∀ i a, F i a → a ≠ p := fun i a f z => hd i a f ((g a).mpr z)
  have ex : Ex H0 (upd H0 p (.lst vs)) := ex_of_upd h0
  refine ⟨upd H0 p (.lst vs), ex, ⟨F, E.len, fun a u e => ?_, fun a u e => ex a u (E.base a u e), fun a g1 g2 g3 => ?_, E.frame, E.alive, E.pin, fun i s e => (E.slot i s e).mono ex fun _ _ => rfl, E.dis, fun i a f => ?_⟩, .lst upd_same (r.mono ex)⟩
  · by_cases ha : a = p
    · subst ha; rw [upd_same] at e; rw [hp]; exact e
    · rw [upd_ne ha] at e; exact E.sub a u e
  · have n : a ≠ p := fun z => by
      subst z
      rcases h2 with h2 | h2
      · exact g2 h2
      · exact g3 h2
    rw [upd_ne n]; exact E.absorb a g1 g2 g3
  · rw [upd_ne (np i a f)]
    exact E.fp i a f

theorem EnvOk.rep (E : EnvOk K ca ps Γ H0 H σ env) (h : env[i]? = some (.dat d)) : ∃ v, σ[i]? = some (some v) ∧ Rep K ca H0 v d := by
  obtain ⟨F, E⟩ := E
  obtain ⟨⟨v, e, r⟩, _⟩ := E.slot i _ h
  refine ⟨v, ?_, r⟩
  cases q : σ[i]? with
  | none => rw [q] at e; cases e
  | some w => rw [q] at e; exact congrArg some e
theorem EnvOk.own (E : EnvOk K ca ps Γ H0 H σ env) (h : env[i]? = some (.lst xs)) : ∃ p vs, σ[i]? = some (some (.ref p)) ∧ H p = some (.lst vs) ∧ RepA K ca H0 vs xs ∧ H0 p = none := by
  obtain ⟨F, E⟩ := E
  obtain ⟨p, vs, e, q, r, f⟩ := E.slot i _ h
  refine ⟨p, vs, ?_, q, r, (E.fp i p ((f p).mpr rfl)).2.1⟩
  cases z : σ[i]? with
  | none => rw [z] at e; cases e
  | some w => rw [z] at e; exact congrArg some e
theorem EnvOk.lt (E : EnvOk K ca ps Γ H0 H σ env) (h : env[i]? = some s) : i < σ.length := by
  obtain ⟨F, E⟩ := E
  rw [E.len]; exact (List.getElem?_eq_some_iff.mp h).1

theorem join_set_self {σ : St} {i : Nat} {v : Option V} (h : i < σ.length) : ((σ.set i v)[i]?).join = v := by
  rw [List.getElem?_set_self h]; rfl
theorem join_set_ne {σ : St} {i j : Nat} {v : Option V} (h : i ≠ j) : ((σ.set i v)[j]?).join = (σ[j]?).join := by
  rw [List.getElem?_set_ne h]

/-- slot i takes the value -/
theorem ResOk.put (E : ResOk K ca ps Γ H0 H σ env v s) (hi : i ∉ ps) : EnvOk K ca ps Γ H0 H (σ.set i (some v)) (env.set i s) := by
  obtain ⟨F, G, E, hs, hd, hG⟩ := E
  by_cases hl0 : i < env.length
  · refine ⟨fun j a => if j = i then G a else F j a, by rw [List.length_set, List.length_set]; exact E.len, E.sub, E.base, E.absorb, E.frame, E.alive, ⟨fun p hp => ?_, E.pin.2⟩, fun j t e => ?_, fun j k a f g => ?_, fun j a f => ?_⟩
    · have n : i ≠ p.1 := fun z => hi (by rw [← E.pin.2, z]; exact List.mem_map_of_mem hp)
      rw [List.getElem?_set_ne n]; exact E.pin.1 p hp
    · by_cases hj : j = i
      · subst hj
        rw [List.getElem?_set_self hl0] at e
        have e' : s = t := Option.some.inj e
        subst e'
        rw [join_set_self (by rw [E.len]; exact hl0)]
        simpa using hs
      · rw [List.getElem?_set_ne (Ne.symm hj)] at e
        rw [join_set_ne (Ne.symm hj)]
        simpa [hj] using E.slot j t e
    · by_cases hj : j = i <;> by_cases hk : k = i
      · rw [hj, hk]
      · simp only [hj, hk, if_true, if_false] at f g
        exact absurd f (hd k a g)
      · simp only [hj, hk, if_true, if_false] at f g
        exact absurd g (hd j a f)
      · simp only [hj, hk, if_false] at f g
        exact E.dis j k a f g
    · rw [List.length_set]
      by_cases hj : j = i
      · simp only [hj, if_true] at f
        exact ⟨by rw [hj]; exact hl0, hG a f⟩
      · simp only [hj, if_false] at f
        exact E.fp j a f
  · rw [List.set_eq_of_length_le (by rw [E.len]; omega), List.set_eq_of_length_le (by omega)]
    exact ⟨F, E⟩
theorem EnvOk.setDat (E : EnvOk K ca ps Γ H0 H σ env) (hi : i ∉ ps) (r : Rep K ca H0 v d) : EnvOk K ca ps Γ H0 H (σ.set i (some v)) (env.set i (.dat d)) := (E.dat r).put hi
/-- a slot is forgotten -/
theorem EnvOk.forget (E : EnvOk K ca ps Γ H0 H σ env) (i : Nat) : EnvOk K ca ps Γ H0 H σ (env.set i .no) := by
  obtain ⟨F, E⟩ := E
  refine ⟨fun j a => j ≠ i ∧ F j a, by rw [List.length_set]; exact E.len, E.sub, E.base, E.absorb, E.frame, E.alive, E.pin, fun j t e => ?_, fun j k a f g => E.dis j k a f.2 g.2, fun j a f => by rw [List.length_set]; exact E.fp j a f.2⟩
  by_cases hj : j = i
  · subst hj
    have hl : j < env.length := by
      have := (List.getElem?_eq_some_iff.mp e).1
      rwa [List.length_set] at this
    rw [List.getElem?_set_self hl] at e
    have e' : SV.no = t := Option.some.inj e
    subst e'
    exact fun a f => f.1 rfl
  · rw [List.getElem?_set_ne (Ne.symm hj)] at e
    have q := E.slot j t e
    have z : (fun a => j ≠ i ∧ F j a) = F j := by funext a; simp [hj]
    show SlotOk K ca H0 H _ t (fun a => j ≠ i ∧ F j a)
    rw [z]; exact q
/-- .. and its value too -/
theorem EnvOk.forgetV (E : EnvOk K ca ps Γ H0 H σ env) (hi : i ∉ ps) (o : Option V) : EnvOk K ca ps Γ H0 H (σ.set i o) (env.set i .no) := by
  obtain ⟨F, E⟩ := E.forget i
  refine ⟨F, by rw [List.length_set]; exact E.len, E.sub, E.base, E.absorb, E.frame, E.alive, ⟨fun p hp => ?_, E.pin.2⟩, fun j t e => ?_, E.dis, E.fp⟩
  · have n : i ≠ p.1 := fun z => hi (by rw [← E.pin.2, z]; exact List.mem_map_of_mem hp)
    rw [List.getElem?_set_ne n]; exact E.pin.1 p hp
  · by_cases hj : j = i
    · subst hj
      have hl : j < env.length := by
        have := (List.getElem?_eq_some_iff.mp e).1
        rwa [List.length_set] at this
      have q := E.slot j t e
      rw [List.getElem?_set_self hl] at e
      have e' : SV.no = t := Option.some.inj e
      subst e'
      exact q
    · rw [join_set_ne (Ne.symm hj)]
      exact E.slot j t e
/-- a slot's own list is one for ever -/
theorem EnvOk.freeze (E : EnvOk K ca ps Γ H0 H σ env) (h : env[i]? = some (.lst xs)) : ∃ H0', Ex H0 H0' ∧ EnvOk K ca ps Γ H0' H σ (env.set i (.dat (.lst xs))) := by
  obtain ⟨F, E⟩ := E
  obtain ⟨p, vs, e0, hp, r, g⟩ := E.slot i _ h
  have hl : i < env.length := (List.getElem?_eq_some_iff.mp h).1
  obtain ⟨_, h0, h1, h2⟩ := E.fp i p ((g p).mpr rfl)
  have np : ∀ j a, j ≠ i → F j a → a ≠ p := fun j a n f z => n (E.dis j i a f ((g a).mpr z))
  have ex : Ex H0 (upd H0 p (.lst vs)) := ex_of_upd h0
  refine ⟨upd H0 p (.lst vs), ex, fun j a => j ≠ i ∧ F j a, by rw [List.length_set]; exact E.len, fun a u e => ?_, fun a u e => ex a u (E.base a u e), fun a g1 g2 g3 => ?_, E.frame, E.alive, E.pin, fun j t e => ?_, fun j k a f g => E.dis j k a f.2 g.2, fun j a f => ?_⟩
  · by_cases ha : a = p
    · subst ha; rw [upd_same] at e; rw [hp]; exact e
    · rw [upd_ne ha] at e; exact E.sub a u e
  · have n : a ≠ p := fun z => by
      subst z
      rcases h2 with h2 | h2
      · exact g2 h2
      · exact g3 h2
    rw [upd_ne n]; exact E.absorb a g1 g2 g3
  · by_cases hj : j = i
    · subst hj
      rw [List.getElem?_set_self hl] at e
      have e' : SV.dat (D.lst xs) = t := Option.some.inj e
      subst e'
      exact ⟨⟨_, e0, .lst upd_same (r.mono ex)⟩, fun a f => f.1 rfl⟩
    · rw [List.getElem?_set_ne (Ne.symm hj)] at e
      have z : (fun a => j ≠ i ∧ F j a) = F j := by funext a; simp [hj]
      show SlotOk K ca _ H _ t (fun a => j ≠ i ∧ F j a)
      rw [z]; exact (E.slot j t e).mono ex fun _ _ => rfl
  · rw [List.length_set, upd_ne (np j a f.1 f.2)]
    exact E.fp j a f.2
/-- a slot's own list is changed -/
theorem EnvOk.mutate {ws : List V} {ys : List D} (E : EnvOk K ca ps Γ H0 H σ env) (h : env[i]? = some (.lst xs)) (hv : σ[i]? = some (some (.ref p))) (hr : RepA K ca H0 ws ys) : EnvOk K ca ps Γ H0 (upd H p (.lst ws)) σ (env.set i (.lst ys)) := by
  obtain ⟨F, E⟩ := E
  obtain ⟨q, vs, e, hp, r, g⟩ := E.slot i _ h
  rw [hv] at e
  have e' : V.ref p = V.ref q := Option.some.inj e
  cases e'
  have hl : i < env.length := (List.getElem?_eq_some_iff.mp h).1
  obtain ⟨_, h0, h1, h2⟩ := E.fp i p ((g p).mpr rfl)
  have np : ∀ j a, j ≠ i → F j a → a ≠ p := fun j a n f z => n (E.dis j i a f ((g a).mpr z))
  refine ⟨F, by rw [List.length_set]; exact E.len, fun a u e => ?_, E.base, E.absorb, fun a u g1 g2 => ?_, fun a q => ?_, E.pin, fun j t e => ?_, E.dis, fun j a f => ?_⟩
  · have n : a ≠ p := fun z => by rw [z, h0] at e; cases e
    rw [upd_ne n]; exact E.sub a u e
  · have n : a ≠ p := fun z => by
      subst z
      rcases h2 with h2 | h2
      · rw [h2] at g1; cases g1
      · exact g2 h2
    rw [upd_ne n]; exact E.frame a u g1 g2
  · have n : a ≠ p := fun z => by rw [z, upd_same] at q; cases q
    rw [upd_ne n] at q; exact E.alive a q
  · by_cases hj : j = i
    · subst hj
      rw [List.getElem?_set_self hl] at e
      have e' : SV.lst ys = t := Option.some.inj e
      subst e'
      exact ⟨p, ws, by rw [hv]; rfl, upd_same, hr, g⟩
    · rw [List.getElem?_set_ne (Ne.symm hj)] at e
      exact (E.slot j t e).mono (Evl.Ex.refl _) fun a f => upd_ne (np j a hj f)
  · rw [List.length_set]
    by_cases hj : j = i
    · subst hj
      have z : a = p := (g a).mp f
      subst z
      exact ⟨hl, h0, (by rw [upd_same]; intro z; cases z), h2⟩
    · rw [upd_ne (np j a hj f)]
      exact E.fp j a f
end
end Mir
set_option Elab.async false
set_option linter.all false
set_option maxRecDepth 100000
set_option maxHeartbeats 4000000
/-! Mirror layer, part B: what a mirror gives; when a reading follows it; expressions. -/
namespace Mir
open PySem PySem.Spec L2
variable {ρ : Type} [Rsc ρ]

/-- what an expression's mirror gives -/
inductive Rs (ρ α : Type) where
  | ok (a : α) (env : Env ρ) | exc (c : Str) (env : Env ρ) | bad
def Rs.bind {α β : Type} (r : Rs ρ α) (f : α → Env ρ → Rs ρ β) : Rs ρ β :=
  match r with
  | .ok a env => f a env
  | .exc c env => .exc c env
  | .bad => .bad
@[simp] theorem Rs.bind_ok {α β : Type} (a : α) (env : Env ρ) (f : α → Env ρ → Rs ρ β) : (Rs.ok a env).bind f = f a env := rfl
@[simp] theorem Rs.bind_exc {α β : Type} (c : Str) (env : Env ρ) (f : α → Env ρ → Rs ρ β) : (Rs.exc c env : Rs ρ α).bind f = .exc c env := rfl
@[simp] theorem Rs.bind_bad {α β : Type} (f : α → Env ρ → Rs ρ β) : (Rs.bad : Rs ρ α).bind f = .bad := rfl
abbrev ME (ρ : Type) := Env ρ → Rs ρ (SV ρ)
abbrev MD (ρ : Type) := Env ρ → Rs ρ D
abbrev MT (ρ : Type) := Env ρ → Rs ρ Bool
abbrev MA (ρ : Type) := Env ρ → Rs ρ (List D)
/-- as data -/
def SV.toD : SV ρ → Option D
  | .dat d => some d
  | .lst xs => some (.lst xs)
  | _ => none
def toD (m : ME ρ) : MD ρ := fun env => (m env).bind fun s env => match s.toD with
  | some d => .ok d env
  | none => .bad

/-- the classes' places, the pinned slots, what is wanted of an exception -/
structure Cm where
  ca : Str → Addr
  ps : List Nat
  E : Str → Hp → Prop

/-- what is wanted of a mirror's result -/
def Wp {α : Type} (K : PySem.W.Frag) (c : Cm) (Γ : Gam) (H0 : Hp) (P : α → Env ρ → Hp → Hp → Prop) : Rs ρ α → Prop
  | .ok a env => ∀ H0' H', Ex H0 H0' → P a env H0' H'
  | .exc x env => ∀ H0' H' σ', EnvOk K c.ca c.ps Γ H0' H' σ' env → c.E x H'
  | .bad => False
def PostE (K : PySem.W.Frag) (c : Cm) (Γ : Gam) (σ : St) (Q : VK) : SV ρ → Env ρ → Hp → Hp → Prop := fun s env H0' H' => ∀ v, ResOk K c.ca c.ps Γ H0' H' σ env v s → Q v H'
def PostD (K : PySem.W.Frag) (c : Cm) (Γ : Gam) (σ : St) (Q : VK) : D → Env ρ → Hp → Hp → Prop := fun d env H0' H' => ∀ v, EnvOk K c.ca c.ps Γ H0' H' σ env → Rep K c.ca H0' v d → Q v H'
def PostT (K : PySem.W.Frag) (c : Cm) (Γ : Gam) (σ : St) (Q : Bool → Hp → Prop) : Bool → Env ρ → Hp → Hp → Prop := fun b env H0' H' => EnvOk K c.ca c.ps Γ H0' H' σ env → Q b H'
def PostA (K : PySem.W.Frag) (c : Cm) (Γ : Gam) (σ : St) (Q : List V → Hp → Prop) : List D → Env ρ → Hp → Hp → Prop := fun ds env H0' H' => ∀ vs, EnvOk K c.ca c.ps Γ H0' H' σ env → RepA K c.ca H0' vs ds → Q vs H'
def SimE (K : PySem.W.Frag) (c : Cm) (t : TE) (m : ME ρ) : Prop := ∀ Γ H0 H σ env Q, EnvOk K c.ca c.ps Γ H0 H σ env → Wp K c Γ H0 (PostE K c Γ σ Q) (m env) → t σ H Q
def SimD (K : PySem.W.Frag) (c : Cm) (t : TE) (m : MD ρ) : Prop := ∀ Γ H0 H σ env Q, EnvOk K c.ca c.ps Γ H0 H σ env → Wp K c Γ H0 (PostD K c Γ σ Q) (m env) → t σ H Q
def SimT (K : PySem.W.Frag) (c : Cm) (t : TT) (m : MT ρ) : Prop := ∀ Γ H0 H σ env Q, EnvOk K c.ca c.ps Γ H0 H σ env → Wp K c Γ H0 (PostT K c Γ σ Q) (m env) → t σ H Q
def SimA (K : PySem.W.Frag) (c : Cm) (t : TA) (m : MA ρ) : Prop := ∀ Γ H0 H σ env Q, EnvOk K c.ca c.ps Γ H0 H σ env → Wp K c Γ H0 (PostA K c Γ σ Q) (m env) → t σ H Q

section
variable {K : PySem.W.Frag} {c : Cm} {Γ : Gam} {H0 H : Hp} {σ : St} {env : Env ρ} {Q : VK}
theorem Wp.imp {α : Type} {P P' : α → Env ρ → Hp → Hp → Prop} {r : Rs ρ α} (h : Wp K c Γ H0 P r) (f : ∀ a env H0' H', Ex H0 H0' → P a env H0' H' → P' a env H0' H') : Wp K c Γ H0 P' r := by
  cases r with
  | ok a env => exact fun H0' H' e => f a env H0' H' e (h H0' H' e)
  | exc x env => exact h
  | bad => exact h
theorem Wp.mono {α : Type} {P : α → Env ρ → Hp → Hp → Prop} {r : Rs ρ α} {H0' : Hp} (e : Ex H0 H0') (h : Wp K c Γ H0 P r) : Wp K c Γ H0' P r := by
  cases r with
  | ok a env => exact fun H1 H' e' => h H1 H' (e.trans e')
  | exc x env => exact h
  | bad => exact h
/-- in a row -/
theorem Wp.bind {α β : Type} {P : β → Env ρ → Hp → Hp → Prop} {r : Rs ρ α} {f : α → Env ρ → Rs ρ β} (h : Wp K c Γ H0 P (r.bind f)) : Wp K c Γ H0 (fun a env H0' H' => Wp K c Γ H0' P (f a env)) r := by
  cases r with
  | ok a env => exact fun H1 H' e => Wp.mono e h
  | exc x env => exact h
  | bad => exact h
/-- a result as data -/
theorem ResOk.toDat {v : V} {s : SV ρ} {d : D} {ps : List Nat} {ca : Str → Addr} (R : ResOk K ca ps Γ H0 H σ env v s) (e : s.toD = some d) : ∃ H0', Ex H0 H0' ∧ EnvOk K ca ps Γ H0' H σ env ∧ Rep K ca H0' v d := by
  cases s with
  | no => cases e
  | dat d' => cases e; exact ⟨H0, Evl.Ex.refl _, R.toEnv, R.rep⟩
  | lst xs => cases e; exact R.freeze
  | res r => cases e
theorem SimE.toD {t : TE} {m : ME ρ} (h : SimE K c t m) : SimD K c t (toD m) := fun Γ H0 H σ env Q E w => by
  refine h Γ H0 H σ env Q E ((Wp.bind w).imp fun s env' H0' H' e q v R => ?_)
  cases z : s.toD with
  | none => rw [z] at q; exact q.elim
  | some d =>
    rw [z] at q
    obtain ⟨H1, e1, E1, r1⟩ := R.toDat z
    exact q H1 H' e1 v E1 r1
end

/-! ### expressions -/
def mVar (i : Nat) : ME ρ := fun env => match env[i]? with
  | some (.dat d) => .ok (.dat d) env
  | _ => .bad
def mC (d : D) : ME ρ := fun env => .ok (.dat d) env
/-- made data stays -/
def mFrz (m : ME ρ) : ME ρ := fun env => (toD m env).bind fun d env => .ok (.dat d) env
/-- two data, an operation -/
def mOp (f : D → D → Option (SV ρ)) (a b : ME ρ) : ME ρ := fun env => (toD a env).bind fun x env => (toD b env).bind fun y env => match f x y with
  | some s => .ok s env
  | none => .bad
def mUn (f : D → Option (SV ρ)) (a : ME ρ) : ME ρ := fun env => (toD a env).bind fun x env => match f x with
  | some s => .ok s env
  | none => .bad
def mArgs : List (ME ρ) → MA ρ
  | [] => fun env => .ok [] env
  | m :: r => fun env => (toD m env).bind fun d env => (mArgs r env).bind fun ds env => .ok (d :: ds) env
def mBlt (f : List D → Option (SV ρ)) (as : MA ρ) : ME ρ := fun env => (as env).bind fun ds env => match f ds with
  | some s => .ok s env
  | none => .bad

/-- an operation by values follows f -/
def OpM (ρ : Type) [Rsc ρ] (K : PySem.W.Frag) (c : Cm) (r : R2) (f : D → D → Option (SV ρ)) : Prop := ∀ Γ H0 H σ (env : Env ρ) x y d1 d2 s Q, EnvOk K c.ca c.ps Γ H0 H σ env → Rep K c.ca H0 x d1 → Rep K c.ca H0 y d2 → f d1 d2 = some s →
  (∀ v H0' H', Ex H0 H0' → ResOk K c.ca c.ps Γ H0' H' σ env v s → Q v H') → r x y H Q
def UnM (ρ : Type) [Rsc ρ] (K : PySem.W.Frag) (c : Cm) (r : V → Hp → VK → Prop) (f : D → Option (SV ρ)) : Prop := ∀ Γ H0 H σ (env : Env ρ) x d1 s Q, EnvOk K c.ca c.ps Γ H0 H σ env → Rep K c.ca H0 x d1 → f d1 = some s →
  (∀ v H0' H', Ex H0 H0' → ResOk K c.ca c.ps Γ H0' H' σ env v s → Q v H') → r x H Q
def CallM (ρ : Type) [Rsc ρ] (K : PySem.W.Frag) (c : Cm) (r : List V → Hp → VK → Prop) (f : List D → Option (SV ρ)) : Prop := ∀ Γ H0 H σ (env : Env ρ) vs ds s Q, EnvOk K c.ca c.ps Γ H0 H σ env → RepA K c.ca H0 vs ds → f ds = some s →
  (∀ v H0' H', Ex H0 H0' → ResOk K c.ca c.ps Γ H0' H' σ env v s → Q v H') → r vs H Q

section
variable {K : PySem.W.Frag} {c : Cm} {ta tb : TE} {a b : ME ρ}
theorem sim_var {i : Nat} : SimE K c (tVar i) (mVar (ρ := ρ) i) := fun Γ H0 H σ env Q E w => by
  unfold mVar at w
  split at w
  · rename_i d hd
    obtain ⟨v, hv, r⟩ := E.rep hd
    exact ⟨v, hv, w H0 H (Evl.Ex.refl _) v (E.dat r)⟩
  · exact w.elim
theorem sim_c {v : V} {d : D} (h : ∀ H, Rep K c.ca H v d) : SimE K c (tC v) (mC (ρ := ρ) d) := fun Γ H0 H σ env Q E w =>
  w H0 H (Evl.Ex.refl _) v (E.dat (h H0))
theorem sim_frz (h : SimE K c ta a) : SimE K c ta (mFrz a) := fun Γ H0 H σ env Q E w => by
  refine h.toD Γ H0 H σ env Q E ((Wp.bind w).imp fun d env' H0' H' e q v E' r => ?_)
  exact q H0' H' (Evl.Ex.refl _) v (E'.dat r)
theorem sim_op {r : R2} {f : D → D → Option (SV ρ)} (ho : OpM ρ K c r f) (ha : SimE K c ta a) (hb : SimE K c tb b) : SimE K c (tOp r ta tb) (mOp f a b) := fun Γ H0 H σ env Q E w => by
  refine ha.toD Γ H0 H σ env _ E ((Wp.bind w).imp fun d1 env1 H1 H1' e1 q1 x E1 r1 => ?_)
  refine hb.toD Γ H1 H1' σ env1 _ E1 ((Wp.bind q1).imp fun d2 env2 H2 H2' e2 q2 y E2 r2 => ?_)
  cases z : f d1 d2 with
  | none => rw [z] at q2; exact q2.elim
  | some s =>
    rw [z] at q2
    exact ho Γ H2 H2' σ env2 x y d1 d2 s Q E2 (r1.mono e2) r2 z fun v H0' H' e' R => q2 H0' H' e' v R
theorem sim_un {r : V → Hp → VK → Prop} {f : D → Option (SV ρ)} (ho : UnM ρ K c r f) (ha : SimE K c ta a) : SimE K c (tUn r ta) (mUn f a) := fun Γ H0 H σ env Q E w => by
  refine ha.toD Γ H0 H σ env _ E ((Wp.bind w).imp fun d1 env1 H1 H1' e1 q1 x E1 r1 => ?_)
  cases z : f d1 with
  | none => rw [z] at q1; exact q1.elim
  | some s =>
    rw [z] at q1
    exact ho Γ H1 H1' σ env1 x d1 s Q E1 r1 z fun v H0' H' e' R => q1 H0' H' e' v R
theorem sim_nil : SimA K c tNil (mArgs (ρ := ρ) []) := fun Γ H0 H σ env Q E w => w H0 H (Evl.Ex.refl _) [] E .nil
theorem sim_cons {tr : TA} {rs : List (ME ρ)} (ha : SimE K c ta a) (hr : SimA K c tr (mArgs rs)) : SimA K c (tCons ta tr) (mArgs (a :: rs)) := fun Γ H0 H σ env Q E w => by
  refine ha.toD Γ H0 H σ env _ E ((Wp.bind w).imp fun d1 env1 H1 H1' e1 q1 x E1 r1 => ?_)
  refine hr Γ H1 H1' σ env1 _ E1 ((Wp.bind q1).imp fun ds env2 H2 H2' e2 q2 ys E2 r2 => ?_)
  exact q2 H2 H2' (Evl.Ex.refl _) (x :: ys) E2 (.cons (r1.mono e2) r2)
theorem sim_blt {r : List V → Hp → VK → Prop} {f : List D → Option (SV ρ)} {tr : TA} {as : MA ρ} (ho : CallM ρ K c r f) (ha : SimA K c tr as) : SimE K c (tCB r tr) (mBlt f as) := fun Γ H0 H σ env Q E w => by
  refine ha Γ H0 H σ env _ E ((Wp.bind w).imp fun ds env1 H1 H1' e1 q1 xs E1 r1 => ?_)
  cases z : f ds with
  | none => rw [z] at q1; exact q1.elim
  | some s =>
    rw [z] at q1
    exact ho Γ H1 H1' σ env1 xs ds s Q E1 r1 z fun v H0' H' e' R => q1 H0' H' e' v R
end

/-! ### operations on ints -/
def dI (f : Int → Int → Option D) : D → D → Option (SV ρ)
  | .int i, .int j => (f i j).map .dat
  | _, _ => none
section
variable {K : PySem.W.Frag} {c : Cm}
theorem opm_I0 {g : Int → Int → V} {f : Int → Int → Option D} (h : ∀ i j d H0, f i j = some d → Rep K c.ca H0 (g i j) d) : OpM ρ K c (rI0 g) (dI f) := by
  intro Γ H0 H σ env x y d1 d2 s Q E r1 r2 e q
  unfold dI at e
  split at e
  · rename_i i j
    cases z : f i j with
    | none => rw [z] at e; cases e
    | some d =>
      rw [z] at e; cases e
      cases r1.flat_int; cases r2.flat_int
      exact ⟨i, j, rfl, rfl, q _ H0 H (Evl.Ex.refl _) (E.dat (h i j d H0 z))⟩
  · cases e
theorem opm_I {C : Int → Int → Prop} {g : Int → Int → V} {f : Int → Int → Option D} (h : ∀ i j d H0, f i j = some d → C i j ∧ Rep K c.ca H0 (g i j) d) : OpM ρ K c (rI C g) (dI f) := by
  intro Γ H0 H σ env x y d1 d2 s Q E r1 r2 e q
  unfold dI at e
  split at e
  · rename_i i j
    cases z : f i j with
    | none => rw [z] at e; cases e
    | some d =>
      rw [z] at e; cases e
      cases r1.flat_int; cases r2.flat_int
      obtain ⟨hc, hr⟩ := h i j d H0 z
      exact ⟨i, j, rfl, rfl, hc, q _ H0 H (Evl.Ex.refl _) (E.dat hr)⟩
  · cases e
end
end Mir
set_option Elab.async false
set_option linter.all false
set_option maxRecDepth 100000
set_option maxHeartbeats 4000000
/-! Mirror layer, part C: operations on data and the rules by which they follow the readings. -/
namespace Mir
open PySem PySem.Spec L2
variable {ρ : Type} [Rsc ρ]

/-! ### data as the library's data -/
mutual
def toPy : D → Option PyData
  | .non => some .none
  | .bl b => some (.bool b)
  | .int i => some (.int i)
  | .str s => some (.str s)
  | .tup xs => (toPyA xs).map .tuple
  | .lst xs => (toPyA xs).map .list
  | .dct _ => none
  | .ins _ _ => none
  | .scr _ => none
def toPyA : List D → Option (List PyData)
  | [] => some []
  | x :: xs => match toPy x, toPyA xs with
    | some p, some ps => some (p :: ps)
    | _, _ => none
end
section
variable {K : PySem.W.Frag} {ca : Str → Addr} {H : Hp}
mutual
theorem Rep.dp : ∀ {d : D} {v : V} {p : PyData}, Rep K ca H v d → toPy d = some p → Dp K H v p
  | .non, _, _, .non, e => by cases e; exact .non
  | .bl _, _, _, .bl b, e => by cases e; exact .bl b
  | .int _, _, _, .int i, e => by cases e; exact .int i
  | .str _, _, _, .str s, e => by cases e; exact .str s
  | .tup ds, _, p, .tup h r, e => by
    unfold toPy at e
    cases z : toPyA ds with
    | none => rw [z] at e; cases e
    | some ps => rw [z] at e; cases e; exact .tup h (RepA.dp r z)
  | .lst ds, _, p, .lst h r, e => by
    unfold toPy at e
    cases z : toPyA ds with
    | none => rw [z] at e; cases e
    | some ps => rw [z] at e; cases e; exact .lst (SqL.of h) (RepA.dp r z)
  | .dct _, _, _, .dct0 h, e => by cases e
  | .ins _ _, _, _, .ins h r, e => by cases e
  | .scr _, _, _, .scr h, e => by cases e
theorem RepA.dp : ∀ {ds : List D} {vs : List V} {ps : List PyData}, RepA K ca H vs ds → toPyA ds = some ps → DpAll K H vs ps
  | [], _, ps, .nil, e => by
    unfold toPyA at e
    cases e; exact .nil
  | x :: xs, _, ps, .cons h r, e => by
    unfold toPyA at e
    cases z1 : toPy x with
    | none => rw [z1] at e; cases e
    | some p =>
      cases z2 : toPyA xs with
      | none => rw [z1, z2] at e; cases e
      | some qs => rw [z1, z2] at e; cases e; exact .cons (Rep.dp h z1) (RepA.dp r z2)
end
end

/-! ### the operations -/
abbrev dat (d : D) : Option (SV ρ) := some (.dat d)
def dAdd : D → D → Option (SV ρ)
  | .int i, .int j => dat (.int (i + j))
  | .tup xs, .tup ys => if xs.length + ys.length ≤ sizeLine then dat (.tup (xs ++ ys)) else none
  | .lst xs, .lst ys => if xs.length + ys.length ≤ sizeLine then some (.lst (xs ++ ys)) else none
  | .str x, .str y => if x.length + y.length ≤ sizeLine then dat (.str (x ++ y)) else none
  | _, _ => none
def dSub : D → D → Option (SV ρ) := dI fun i j => some (.int (i - j))
def dMul : D → D → Option (SV ρ)
  | .int i, .int j => if i.natAbs.log2 + j.natAbs.log2 < 1000000 then dat (.int (i * j)) else none
  | .lst xs, .int k => if -(2 ^ 63) ≤ k ∧ k < 2 ^ 63 ∧ xs.length * k.toNat ≤ sizeLine then some (.lst (List.replicate k.toNat xs).flatten) else none
  | .tup xs, .int k => if xs ≠ [] ∧ 2 ≤ k ∧ k ≤ 1000 ∧ xs.length ≤ 1000 then dat (.tup (List.replicate k.toNat xs).flatten) else none
  | _, _ => none
def dFdiv : D → D → Option (SV ρ) := dI fun i j => if 0 < j ∧ j.natAbs.log2 < 9000 then some (.int (i / j)) else none
def dMod : D → D → Option (SV ρ) := dI fun i j => if 0 < j then some (.int (i % j)) else none
def dPow : D → D → Option (SV ρ) := dI fun i j => if 0 ≤ j ∧ j ≤ 1000000 ∧ i.natAbs < 2 ^ 64 then some (.int (i ^ j.toNat)) else none
def dShl : D → D → Option (SV ρ) := dI fun i j => if 0 ≤ j ∧ j ≤ 1000000 ∧ i.natAbs < 2 ^ 64 then some (.int (i * 2 ^ j.toNat)) else none
def dShr : D → D → Option (SV ρ) := dI fun i j => if 0 ≤ j then some (.int (i / 2 ^ j.toNat)) else none
def dAnd : D → D → Option (SV ρ) := dI fun i j => some (.int (Builtin.bitAnd i j))
def dOr : D → D → Option (SV ρ) := dI fun i j => some (.int (Builtin.bitOr i j))
def dXor : D → D → Option (SV ρ) := dI fun i j => some (.int (Builtin.bitXor i j))
def dLt : D → D → Option (SV ρ) := dI fun i j => some (.bl (decide (i < j)))
def dLe : D → D → Option (SV ρ) := dI fun i j => some (.bl (decide (i ≤ j)))
def dGt : D → D → Option (SV ρ) := dI fun i j => some (.bl (decide (j < i)))
def dGe : D → D → Option (SV ρ) := dI fun i j => some (.bl (decide (j ≤ i)))
/-- Python's == of data -/
def deq (x y : D) : Option Bool := match toPy x, toPy y with
  | some p, some q => if SeqAt.shaped p = true ∧ SeqAt.shaped q = true then some (PyData.eqv p q) else none
  | _, _ => none
def dEq (x y : D) : Option (SV ρ) := (deq x y).map fun b => .dat (.bl b)
def dNe (x y : D) : Option (SV ρ) := (deq x y).map fun b => .dat (.bl (!b))
def isNon : D → Bool
  | .non => true
  | _ => false
def dIsN (x : D) : Option (SV ρ) := dat (.bl (isNon x))
def dNotN (x : D) : Option (SV ρ) := dat (.bl (!isNon x))
def dIsB : D → D → Option (SV ρ)
  | .bl a, .bl b => dat (.bl (decide (a = b)))
  | _, _ => none
def dIx : D → D → Option (SV ρ)
  | .tup xs, .int i => (atI xs i).map .dat
  | .lst xs, .int i => (atI xs i).map .dat
  | .scr ns, .int i => (atI ns i).map fun n => .dat (.int n)
  | .str z, .int i => if z.length ≤ sizeLine then (atI z.cps.toList i).map fun c => .dat (.str ⟨#[c]⟩) else none
  | _, _ => none
def cutD {α : Type} (xs : List α) (lo hi : Option Int) : List α := (xs.drop (HT.sIx xs.length 0 lo)).take (HT.sIx xs.length xs.length hi - HT.sIx xs.length 0 lo)
def dSl : D → Option Int → Option Int → Option (SV ρ)
  | .tup xs, lo, hi => dat (.tup (cutD xs lo hi))
  | .lst xs, lo, hi => some (.lst (cutD xs lo hi))
  | .scr xs, lo, hi => some (.lst ((cutD xs lo hi).map .int))
  | .str z, lo, hi => if z.length ≤ sizeLine then dat (.str (cutS z lo hi)) else none
  | _, _, _ => none
def dNeg : D → Option (SV ρ)
  | .int i => dat (.int (-i))
  | _ => none

section
variable {K : PySem.W.Frag} {c : Cm} {X : Cx}
theorem cutD_length {α : Type} (xs : List α) (lo hi : Option Int) : (cutD xs lo hi).length ≤ xs.length := by
  unfold cutD; rw [List.length_take, List.length_drop]; omega
theorem RepA.cut {K : PySem.W.Frag} {ca : Str → Addr} {H : Hp} {vs : List V} {ds : List D} (r : RepA K ca H vs ds) (lo hi : Option Int) : RepA K ca H (cutV vs lo hi) (cutD ds lo hi) := by
  unfold cutV cutD
  rw [r.length]
  exact RepA.take _ (RepA.drop _ r)
theorem RepA.atI {K : PySem.W.Frag} {ca : Str → Addr} {H : Hp} {vs : List V} {ds : List D} {i : Int} {d : D} (r : RepA K ca H vs ds) (e : L2.atI ds i = some d) : ∃ v, L2.atI vs i = some v ∧ Rep K ca H v d := by
  unfold L2.atI at e ⊢
  rw [r.length]
  cases z : ixN ds.length i with
  | none => rw [z] at e; cases e
  | some j =>
    rw [z] at e
    obtain ⟨v, h1, h2⟩ := r.get (i := j) e
    exact ⟨v, h1, h2⟩
theorem repA_ints {K : PySem.W.Frag} {ca : Str → Addr} {H : Hp} : ∀ ns : List Int, RepA K ca H (ns.map V.int) (ns.map D.int)
  | [] => .nil
  | n :: r => .cons (.int n) (repA_ints r)
theorem ints_of_repA {K : PySem.W.Frag} {ca : Str → Addr} {H : Hp} : ∀ {ns : List Int} {vs : List V}, RepA K ca H vs (ns.map D.int) → vs = ns.map V.int
  | [], _, .nil => rfl
  | n :: r, _, .cons h t => by rw [h.flat_int, ints_of_repA t]; rfl
theorem bls_of_repA {K : PySem.W.Frag} {ca : Str → Addr} {H : Hp} : ∀ {bs : List Bool} {vs : List V}, RepA K ca H vs (bs.map D.bl) → vs = bs.map V.bl
  | [], _, .nil => rfl
  | n :: r, _, .cons h t => by rw [h.flat_bl, bls_of_repA t]; rfl
theorem repA_rep {K : PySem.W.Frag} {ca : Str → Addr} {H : Hp} {vs : List V} {ds : List D} (r : RepA K ca H vs ds) : ∀ n : Nat, RepA K ca H (List.replicate n vs).flatten (List.replicate n ds).flatten
  | 0 => .nil
  | n + 1 => by rw [List.replicate_succ, List.replicate_succ, List.flatten_cons, List.flatten_cons]; exact RepA.append r (repA_rep r n)

/-- a new tuple that stays -/
theorem EnvOk.newTup {ca : Str → Addr} {ps : List Nat} {Γ : Gam} {H0 H : Hp} {σ : St} {env : Env ρ} {p : Addr} {vs : List V} {ds : List D} (E : EnvOk K ca ps Γ H0 H σ env) (hp : H p = none) (r : RepA K ca H0 vs ds) :
    ∃ H0', Ex H0 H0' ∧ ResOk K ca ps Γ H0' (upd H p (.tup vs)) σ env (.ref p) (.dat (.tup ds)) := by
  obtain ⟨E1, e1⟩ := E.grow hp (.tup vs)
  exact ⟨_, e1, E1.dat (.tup (SqT.of upd_same) (r.mono e1))⟩
theorem SqT.up {ca : Str → Addr} {ps : List Nat} {Γ : Gam} {H0 H : Hp} {σ : St} {env : Env ρ} {a : Addr} {xs : List V} (E : EnvOk K ca ps Γ H0 H σ env) (h : SqT K H0 a xs) : SqT K H a xs := by
  obtain ⟨F, E⟩ := E
  exact Evl.ex_t E.sub h
theorem EnvOk.sub {ca : Str → Addr} {ps : List Nat} {Γ : Gam} {H0 H : Hp} {σ : St} {env : Env ρ} (E : EnvOk K ca ps Γ H0 H σ env) : Ex H0 H := by
  obtain ⟨F, E⟩ := E
  exact E.sub

def rAddAll (K : PySem.W.Frag) : R2 := fun x y H Q => (rI0 fun i j => .int (i + j)) x y H Q ∨ rCatA K x y H Q ∨ rCat x y H Q ∨ ∃ i j, x = .str i ∧ y = .str j ∧ i.length + j.length ≤ sizeLine ∧ Q (.str (i ++ j)) H
theorem op_addAll : OpR X (binaryOp .Add) (rAddAll X.K) := op_add.or (op_catA.or (op_cat.or op_add_str))
theorem opm_add : OpM ρ K c (rAddAll K) dAdd := by
  intro Γ H0 H σ env x y d1 d2 s Q E r1 r2 e q
  unfold dAdd at e
  split at e
  · cases e
    cases r1.flat_int; cases r2.flat_int
    exact .inl ⟨_, _, rfl, rfl, q _ H0 H (Evl.Ex.refl _) (E.dat (.int _))⟩
  · split at e
    · cases e
      rename_i hz
      obtain ⟨a, xs, rfl, h1, g1⟩ := r1.of_tup
      obtain ⟨b, ys, rfl, h2, g2⟩ := r2.of_tup
      refine .inr (.inl ⟨a, b, xs, ys, rfl, rfl, SqT.up E h1, SqT.up E h2, by rw [g1.length, g2.length]; exact hz, fun z => ?_, fun _ z => ?_, fun _ _ p hp => ?_⟩)
      · subst z
        cases g1
        exact q _ H0 H (Evl.Ex.refl _) (E.dat r2)
      · subst z
        cases g2
        rw [List.append_nil] at q
        exact q _ H0 H (Evl.Ex.refl _) (E.dat r1)
      · obtain ⟨H0', e', R⟩ := E.newTup hp (g1.append g2)
        exact q _ H0' _ e' R
    · cases e
  · split at e
    · cases e
      rename_i hz
      obtain ⟨a, xs, rfl, h1, g1⟩ := r1.of_lst
      obtain ⟨b, ys, rfl, h2, g2⟩ := r2.of_lst
      exact .inr (.inr (.inl ⟨a, b, xs, ys, rfl, rfl, E.sub _ _ h1, E.sub _ _ h2, by rw [g1.length, g2.length]; exact hz, fun p hp => q _ H0 _ (Evl.Ex.refl _) (E.fresh hp (g1.append g2))⟩))
    · cases e
  · split at e
    · cases e
      rename_i hz
      cases r1.flat_str; cases r2.flat_str
      exact .inr (.inr (.inr ⟨_, _, rfl, rfl, hz, q _ H0 H (Evl.Ex.refl _) (E.dat (.str _))⟩))
    · cases e
  · cases e
def rMulAll (K : PySem.W.Frag) : R2 := fun x y H Q => (rI CMulW fun i j => .int (i * j)) x y H Q ∨ rRep x y H Q ∨ rRepT K x y H Q
theorem op_mulAll : OpR X (binaryOp .Mult) (rMulAll X.K) := op_mulW.or (op_rep.or op_repT)
theorem opm_mul : OpM ρ K c (rMulAll K) dMul := by
  intro Γ H0 H σ env x y d1 d2 s Q E r1 r2 e q
  unfold dMul at e
  split at e
  · split at e
    · cases e
      rename_i hz
      cases r1.flat_int; cases r2.flat_int
      exact .inl ⟨_, _, rfl, rfl, hz, q _ H0 H (Evl.Ex.refl _) (E.dat (.int _))⟩
    · cases e
  · split at e
    · cases e
      rename_i hz
      obtain ⟨a, xs, rfl, h1, g1⟩ := r1.of_lst
      cases r2.flat_int
      exact .inr (.inl ⟨a, _, xs, rfl, rfl, E.sub _ _ h1, hz.1, hz.2.1, by rw [g1.length]; exact hz.2.2, fun p hp => q _ H0 _ (Evl.Ex.refl _) (E.fresh hp (repA_rep g1 _))⟩)
    · cases e
  · split at e
    · cases e
      rename_i hz
      obtain ⟨a, xs, rfl, h1, g1⟩ := r1.of_tup
      cases r2.flat_int
      refine .inr (.inr ⟨a, _, xs, rfl, rfl, SqT.up E h1, fun z => ?_, hz.2.1, hz.2.2.1, by rw [g1.length]; exact hz.2.2.2, fun p hp => ?_⟩)
      · subst z
        cases g1
        exact hz.1 rfl
      · obtain ⟨H0', e', R⟩ := E.newTup hp (repA_rep g1 _)
        exact q _ H0' _ e' R
    · cases e
  · cases e
theorem opm_sub : OpM ρ K c (rI0 fun i j => .int (i - j)) dSub := opm_I0 fun i j d H0 e => by cases e; exact .int _
theorem opm_fdiv : OpM ρ K c (rI CDivW fun i j => .int (i / j)) dFdiv := opm_I fun i j d H0 e => by
  split at e
  · cases e; rename_i h; exact ⟨h, .int _⟩
  · cases e
theorem opm_mod : OpM ρ K c (rI (fun _ j => 0 < j) fun i j => .int (i % j)) dMod := opm_I fun i j d H0 e => by
  split at e
  · cases e; rename_i h; exact ⟨h, .int _⟩
  · cases e
theorem opm_pow : OpM ρ K c (rI CPow fun i j => .int (i ^ j.toNat)) dPow := opm_I fun i j d H0 e => by
  split at e
  · cases e; rename_i h; exact ⟨h, .int _⟩
  · cases e
theorem opm_shl : OpM ρ K c (rI CPow fun i j => .int (i * 2 ^ j.toNat)) dShl := opm_I fun i j d H0 e => by
  split at e
  · cases e; rename_i h; exact ⟨h, .int _⟩
  · cases e
theorem opm_shr : OpM ρ K c (rI (fun _ j => 0 ≤ j) fun i j => .int (i / 2 ^ j.toNat)) dShr := opm_I fun i j d H0 e => by
  split at e
  · cases e; rename_i h; exact ⟨h, .int _⟩
  · cases e
theorem opm_and : OpM ρ K c (rI0 fun i j => .int (Builtin.bitAnd i j)) dAnd := opm_I0 fun i j d H0 e => by cases e; exact .int _
theorem opm_or : OpM ρ K c (rI0 fun i j => .int (Builtin.bitOr i j)) dOr := opm_I0 fun i j d H0 e => by cases e; exact .int _
theorem opm_xor : OpM ρ K c (rI0 fun i j => .int (Builtin.bitXor i j)) dXor := opm_I0 fun i j d H0 e => by cases e; exact .int _
theorem opm_lt : OpM ρ K c (rI0 fun i j => .bl (decide (i < j))) dLt := opm_I0 fun i j d H0 e => by cases e; exact .bl _
theorem opm_le : OpM ρ K c (rI0 fun i j => .bl (decide (i ≤ j))) dLe := opm_I0 fun i j d H0 e => by cases e; exact .bl _
theorem opm_gt : OpM ρ K c (rI0 fun i j => .bl (decide (j < i))) dGt := opm_I0 fun i j d H0 e => by cases e; exact .bl _
theorem opm_ge : OpM ρ K c (rI0 fun i j => .bl (decide (j ≤ i))) dGe := opm_I0 fun i j d H0 e => by cases e; exact .bl _
theorem deq_some {x y : D} {b : Bool} (e : deq x y = some b) : ∃ p q, toPy x = some p ∧ toPy y = some q ∧ SeqAt.shaped p = true ∧ SeqAt.shaped q = true ∧ b = PyData.eqv p q := by
  unfold deq at e
  split at e
  · rename_i p q h1 h2
    split at e
    · cases e; rename_i h; exact ⟨p, q, h1, h2, h.1, h.2, rfl⟩
    · cases e
  · cases e
theorem opm_eq : OpM ρ K c (rEqD K) dEq := by
  intro Γ H0 H σ env x y d1 d2 s Q E r1 r2 e q
  unfold dEq at e
  cases z : deq d1 d2 with
  | none => rw [z] at e; cases e
  | some b =>
    rw [z] at e; cases e
    obtain ⟨p, p', h1, h2, h3, h4, rfl⟩ := deq_some z
    exact ⟨p, p', (r1.mono E.sub).dp h1, (r2.mono E.sub).dp h2, h3, h4, q _ H0 H (Evl.Ex.refl _) (E.dat (.bl _))⟩
theorem opm_ne : OpM ρ K c (rNeD K) dNe := by
  intro Γ H0 H σ env x y d1 d2 s Q E r1 r2 e q
  unfold dNe at e
  cases z : deq d1 d2 with
  | none => rw [z] at e; cases e
  | some b =>
    rw [z] at e; cases e
    obtain ⟨p, p', h1, h2, h3, h4, rfl⟩ := deq_some z
    exact ⟨p, p', (r1.mono E.sub).dp h1, (r2.mono E.sub).dp h2, h3, h4, q _ H0 H (Evl.Ex.refl _) (E.dat (.bl _))⟩
theorem opm_isB : OpM ρ K c rIsB dIsB := by
  intro Γ H0 H σ env x y d1 d2 s Q E r1 r2 e q
  unfold dIsB at e
  split at e
  · cases e
    cases r1.flat_bl; cases r2.flat_bl
    exact ⟨_, _, rfl, rfl, q _ H0 H (Evl.Ex.refl _) (E.dat (.bl _))⟩
  · cases e
theorem rep_non {ca : Str → Addr} {H : Hp} {v : V} {d : D} (r : Rep K ca H v d) : decide (v = .non) = isNon d := by
  cases r <;> rfl
theorem opm_ix : OpM ρ K c (rIx K) dIx := by
  intro Γ H0 H σ env x y d1 d2 s Q E r1 r2 e q
  unfold dIx at e
  split at e
  · rename_i xs i
    cases z : atI xs i with
    | none => rw [z] at e; cases e
    | some d =>
      rw [z] at e; cases e
      obtain ⟨a, ws, rfl, h1, g1⟩ := r1.of_tup
      cases r2.flat_int
      obtain ⟨v, h2, g2⟩ := g1.atI z
      exact .inr (.inl ⟨a, ws, i, v, rfl, rfl, SqT.up E h1, h2, q _ H0 H (Evl.Ex.refl _) (E.dat g2)⟩)
  · rename_i xs i
    cases z : atI xs i with
    | none => rw [z] at e; cases e
    | some d =>
      rw [z] at e; cases e
      obtain ⟨a, ws, rfl, h1, g1⟩ := r1.of_lst
      cases r2.flat_int
      obtain ⟨v, h2, g2⟩ := g1.atI z
      exact .inl ⟨a, ws, i, v, rfl, rfl, SqL.of (E.sub _ _ h1), h2, q _ H0 H (Evl.Ex.refl _) (E.dat g2)⟩
  · rename_i xs i
    cases z : atI xs i with
    | none => rw [z] at e; cases e
    | some n =>
      rw [z] at e; cases e
      obtain ⟨a, rfl, h1⟩ := r1.of_scr
      cases r2.flat_int
      refine .inl ⟨a, _, i, .int n, rfl, rfl, Evl.ex_l E.sub h1, ?_, q _ H0 H (Evl.Ex.refl _) (E.dat (.int _))⟩
      unfold atI at z ⊢
      rw [List.length_map]
      cases z2 : ixN xs.length i with
      | none => rw [z2] at z; cases z
      | some j => rw [z2] at z; simp only [Option.bind_some] at z ⊢; rw [List.getElem?_map, z]; rfl
  · split at e
    · rename_i z i hz
      cases z2 : atI z.cps.toList i with
      | none => rw [z2] at e; cases e
      | some n =>
        rw [z2] at e; cases e
        cases r1.flat_str; cases r2.flat_int
        exact .inr (.inr ⟨z, i, n, rfl, rfl, hz, z2, q _ H0 H (Evl.Ex.refl _) (E.dat (.str _))⟩)
    · cases e
  · cases e
end
end Mir
set_option Elab.async false
set_option linter.all false
set_option maxRecDepth 100000
set_option maxHeartbeats 4000000
/-! Mirror layer, part D: the judgements; expressions by their syntax; calls of defs. -/
namespace Mir
open PySem PySem.Spec L2
variable {ρ : Type} [Rsc ρ]

def EM (X : Cx) (c : Cm) (e : Expr) (m : ME ρ) : Prop := ∃ t, PE X e t ∧ SimE X.K c t m
def TM (X : Cx) (c : Cm) (e : Expr) (m : MT ρ) : Prop := ∃ t, PT X e t ∧ SimT X.K c t m
def WM (X : Cx) (c : Cm) (e : Expr) (m : MT ρ) : Prop := ∃ t, PW X e t ∧ SimT X.K c t m
def AM (X : Cx) (c : Cm) (es : List Expr) (m : MA ρ) : Prop := ∃ t, PA X es t ∧ SimA X.K c t m

/-! ### tests -/
def mTest (m : ME ρ) : MT ρ := fun env => (toD m env).bind fun d env => match d with
  | .bl b => .ok b env
  | _ => .bad
def mAnd (a b : MT ρ) : MT ρ := fun env => (a env).bind fun x env => if x = true then b env else .ok false env
def mOr (a b : MT ρ) : MT ρ := fun env => (a env).bind fun x env => if x = true then .ok true env else b env
def mNot (a : MT ρ) : MT ρ := fun env => (a env).bind fun x env => .ok (!x) env
def mIf (t : MT ρ) (a b : ME ρ) : ME ρ := fun env => (t env).bind fun x env => if x = true then a env else b env
def mAndV (a b : ME ρ) : ME ρ := fun env => (toD a env).bind fun x env => match x with
  | .bl x => if x = true then b env else .ok (.dat (.bl false)) env
  | _ => .bad
def mOrV (a b : ME ρ) : ME ρ := fun env => (toD a env).bind fun x env => match x with
  | .bl x => if x = true then .ok (.dat (.bl true)) env else b env
  | _ => .bad
def mNotV (a : ME ρ) : ME ρ := fun env => (toD a env).bind fun x env => match x with
  | .bl x => .ok (.dat (.bl (!x))) env
  | _ => .bad
section
variable {K : PySem.W.Frag} {c : Cm} {te ta tb : TE} {m a b : ME ρ} {tt tu : TT} {p q : MT ρ}
theorem sim_bool {P : Bool → Env ρ → Rs ρ (SV ρ)} (h : SimE K c te m) {Γ : Gam} {H0 H : Hp} {σ : St} {env : Env ρ} {R : VK} (E : EnvOk K c.ca c.ps Γ H0 H σ env)
    {α : Type} {PP : α → Env ρ → Hp → Hp → Prop} {f : Bool → Env ρ → Rs ρ α} (w : Wp K c Γ H0 PP ((toD m env).bind fun d env => match d with | .bl b => f b env | _ => .bad))
    (k : ∀ b env' H0' H', Ex H0 H0' → EnvOk K c.ca c.ps Γ H0' H' σ env' → Wp K c Γ H0' PP (f b env') → R (.bl b) H') : te σ H R := by
  refine h.toD Γ H0 H σ env _ E ((Wp.bind w).imp fun d env1 H1 H1' e1 q1 x E1 r1 => ?_)
  cases d with
  | bl b => cases r1; exact k b env1 H1 H1' e1 E1 q1
  | _ => exact q1.elim
theorem sim_testT (h : SimE K c te m) : SimT K c (tTest te) (mTest m) := fun Γ H0 H σ env Q E w =>
  sim_bool (P := fun _ _ => .bad) h E (f := fun b env => .ok b env) w fun b env' H0' H' e E' q => ⟨b, rfl, q H0' H' (Evl.Ex.refl _) E'⟩
theorem sim_testB (h : SimE K c te m) : SimT K c (tB te) (mTest m) := fun Γ H0 H σ env Q E w =>
  sim_bool (P := fun _ _ => .bad) h E (f := fun b env => .ok b env) w fun b env' H0' H' e E' q => ⟨b, rfl, q H0' H' (Evl.Ex.refl _) E'⟩
theorem sim_and (h1 : SimT K c tt p) (h2 : SimT K c tu q) : SimT K c (tAnd tt tu) (mAnd p q) := fun Γ H0 H σ env Q E w => by
  refine h1 Γ H0 H σ env _ E ((Wp.bind w).imp fun b env1 H1 H1' e1 q1 E1 => ?_)
  cases b with
  | true => exact h2 Γ H1 H1' σ env1 _ E1 q1
  | false => exact q1 H1 H1' (Evl.Ex.refl _) E1
theorem sim_or (h1 : SimT K c tt p) (h2 : SimT K c tu q) : SimT K c (tOr tt tu) (mOr p q) := fun Γ H0 H σ env Q E w => by
  refine h1 Γ H0 H σ env _ E ((Wp.bind w).imp fun b env1 H1 H1' e1 q1 E1 => ?_)
  cases b with
  | false => exact h2 Γ H1 H1' σ env1 _ E1 q1
  | true => exact q1 H1 H1' (Evl.Ex.refl _) E1
theorem sim_not (h1 : SimT K c tt p) : SimT K c (tNot tt) (mNot p) := fun Γ H0 H σ env Q E w => by
  refine h1 Γ H0 H σ env _ E ((Wp.bind w).imp fun b env1 H1 H1' e1 q1 E1 => ?_)
  exact q1 H1 H1' (Evl.Ex.refl _) E1
theorem sim_if (h1 : SimT K c tt p) (ha : SimE K c ta a) (hb : SimE K c tb b) : SimE K c (tIf tt ta tb) (mIf p a b) := fun Γ H0 H σ env Q E w => by
  refine h1 Γ H0 H σ env _ E ((Wp.bind w).imp fun x env1 H1 H1' e1 q1 E1 => ?_)
  cases x with
  | true => exact ha Γ H1 H1' σ env1 _ E1 q1
  | false => exact hb Γ H1 H1' σ env1 _ E1 q1
theorem sim_andV (ha : SimE K c ta a) (hb : SimE K c tb b) : SimE K c (tAndV ta tb) (mAndV a b) := fun Γ H0 H σ env Q E w =>
  sim_bool (P := fun _ _ => .bad) ha E (f := fun x env => if x = true then b env else .ok (.dat (.bl false)) env) w fun x env' H0' H' e E' q => ⟨x, rfl, by
    cases x with
    | true => exact hb Γ H0' H' σ env' _ E' q
    | false => exact q H0' H' (Evl.Ex.refl _) _ (E'.dat (.bl false))⟩
theorem sim_orV (ha : SimE K c ta a) (hb : SimE K c tb b) : SimE K c (tOrV ta tb) (mOrV a b) := fun Γ H0 H σ env Q E w =>
  sim_bool (P := fun _ _ => .bad) ha E (f := fun x env => if x = true then .ok (.dat (.bl true)) env else b env) w fun x env' H0' H' e E' q => ⟨x, rfl, by
    cases x with
    | false => exact hb Γ H0' H' σ env' _ E' q
    | true => exact q H0' H' (Evl.Ex.refl _) _ (E'.dat (.bl true))⟩
theorem sim_notV (ha : SimE K c ta a) : SimE K c (tNotV ta) (mNotV a) := fun Γ H0 H σ env Q E w => by
  refine sim_bool (P := fun _ _ => .bad) (PP := PostE K c Γ σ Q) ha E (f := fun x env => .ok (.dat (.bl (!x))) env) w fun x env' H0' H' e E' q => ⟨x, rfl, ?_⟩
  exact q H0' H' (Evl.Ex.refl _) _ (E'.dat (.bl _))
end

/-! ### by the syntax -/
section
variable {X : Cx} {c : Cm} {a b e : Expr} {ma mb : ME ρ} {pos : Pos} {rest : List Expr} {p q : MT ρ}
theorem em_var (i : Nat) {x : Str} (hN : X.N[i]? = some x := by rfl) (hv : Vis X.env.scope x := by first | exact Or.inl rfl | exact Or.inr (Or.inl rfl) | exact Or.inr (Or.inr rfl)) (hd : (x == ("__debug__" : Str)) = false := by decide)
    (hcd : (x == ("__classdict__" : Str)) = false := by decide) : EM X c (.Name x pos) (mVar (ρ := ρ) i) := ⟨_, pe_var hN hv hd hcd, sim_var⟩
theorem em_int {i : Int} {j} : EM X c (.Constant (.int i) j pos) (mC (ρ := ρ) (.int i)) := ⟨_, pe_int, sim_c fun _ => .int i⟩
theorem em_bl {i : Bool} {j} : EM X c (.Constant (.bool i) j pos) (mC (ρ := ρ) (.bl i)) := ⟨_, pe_bl, sim_c fun _ => .bl i⟩
theorem em_non {j} : EM X c (.Constant .none j pos) (mC (ρ := ρ) .non) := ⟨_, pe_non, sim_c fun _ => .non⟩
theorem em_str {i : Str} {j} : EM X c (.Constant (.str i) j pos) (mC (ρ := ρ) (.str i)) := ⟨_, pe_str, sim_c fun _ => .str i⟩
/-- a module's constant -/
theorem em_glob {x : Str} {u : Value} {v : V} {d : D} (hm : X.mg x = some u) (r : RelV v u) (h : ∀ H, Rep X.K c.ca H v d) (hg : Gl X x := by rfl) (hd : (x == ("__debug__" : Str)) = false := by decide) : EM X c (.Name x pos) (mC (ρ := ρ) d) := ⟨_, pe_glob hg hm r hd, sim_c h⟩
theorem em_frz (h : EM X c e ma) : EM X c e (mFrz ma) := let ⟨t, h1, h2⟩ := h; ⟨t, h1, sim_frz h2⟩
theorem em_bin {op : Operator} {r : R2} {f : D → D → Option (SV ρ)} (ho : OpR X (binaryOp op) r) (hf : OpM ρ X.K c r f) (ha : EM X c a ma) (hb : EM X c b mb) : EM X c (.BinOp a op b pos) (mOp f ma mb) :=
  let ⟨_, h1, h2⟩ := ha; let ⟨_, g1, g2⟩ := hb; ⟨_, pe_op ho h1 g1, sim_op hf h2 g2⟩
theorem em_add (ha : EM X c a ma) (hb : EM X c b mb) : EM X c (.BinOp a .Add b pos) (mOp dAdd ma mb) := em_bin op_addAll opm_add ha hb
theorem em_sub (ha : EM X c a ma) (hb : EM X c b mb) : EM X c (.BinOp a .Sub b pos) (mOp dSub ma mb) := em_bin L2.op_sub opm_sub ha hb
theorem em_mul (ha : EM X c a ma) (hb : EM X c b mb) : EM X c (.BinOp a .Mult b pos) (mOp dMul ma mb) := em_bin op_mulAll opm_mul ha hb
theorem em_fdiv (ha : EM X c a ma) (hb : EM X c b mb) : EM X c (.BinOp a .FloorDiv b pos) (mOp dFdiv ma mb) := em_bin op_fdivW opm_fdiv ha hb
theorem em_mod (ha : EM X c a ma) (hb : EM X c b mb) : EM X c (.BinOp a .Mod b pos) (mOp dMod ma mb) := em_bin L2.op_mod opm_mod ha hb
theorem em_pow (ha : EM X c a ma) (hb : EM X c b mb) : EM X c (.BinOp a .Pow b pos) (mOp dPow ma mb) := em_bin L2.op_pow opm_pow ha hb
theorem em_shl (ha : EM X c a ma) (hb : EM X c b mb) : EM X c (.BinOp a .LShift b pos) (mOp dShl ma mb) := em_bin L2.op_shl opm_shl ha hb
theorem em_shr (ha : EM X c a ma) (hb : EM X c b mb) : EM X c (.BinOp a .RShift b pos) (mOp dShr ma mb) := em_bin L2.op_shr opm_shr ha hb
theorem em_and_ (ha : EM X c a ma) (hb : EM X c b mb) : EM X c (.BinOp a .BitAnd b pos) (mOp dAnd ma mb) := em_bin L2.op_and opm_and ha hb
theorem em_or_ (ha : EM X c a ma) (hb : EM X c b mb) : EM X c (.BinOp a .BitOr b pos) (mOp dOr ma mb) := em_bin L2.op_or opm_or ha hb
theorem em_xor_ (ha : EM X c a ma) (hb : EM X c b mb) : EM X c (.BinOp a .BitXor b pos) (mOp dXor ma mb) := em_bin L2.op_xor opm_xor ha hb
theorem unm_neg : UnM ρ X.K c (rU fun i => .int (-i)) dNeg := by
  intro Γ H0 H σ env x d s Q E r e q
  unfold dNeg at e
  split at e
  · cases e; cases r.flat_int
    exact ⟨_, rfl, q _ H0 H (Evl.Ex.refl _) (E.dat (.int _))⟩
  · cases e
theorem em_neg (ha : EM X c a ma) : EM X c (.UnaryOp .USub a pos) (mUn dNeg ma) := let ⟨_, h1, h2⟩ := ha; ⟨_, pe_un un_neg h1, sim_un unm_neg h2⟩
/-- comparisons -/
theorem em_cmp {op : CmpOp} {r : R2} {f : D → D → Option (SV ρ)} (ho : OpR X (compareOp op) r) (hf : OpM ρ X.K c r f) (ha : EM X c a ma) (hb : EM X c b mb) (hm : behindInMarks op b = false) : EM X c (.Compare a [op] [b] pos) (mOp f ma mb) :=
  let ⟨_, h1, h2⟩ := ha; let ⟨_, g1, g2⟩ := hb; ⟨_, pe_cmpR ho h1 g1 hm, sim_op hf h2 g2⟩
theorem tm_cmp {op : CmpOp} {r : R2} {f : D → D → Option (SV ρ)} (ho : OpR X (compareOp op) r) (hf : OpM ρ X.K c r f) (ha : EM X c a ma) (hb : EM X c b mb) (hm : behindInMarks op b = false) : TM X c (.Compare a [op] [b] pos) (mTest (mOp f ma mb)) :=
  let ⟨_, h1, h2⟩ := ha; let ⟨_, g1, g2⟩ := hb; ⟨_, pt_cmpR ho h1 g1 hm, sim_testT (sim_op hf h2 g2)⟩
/-- a < b < c -/
def mChain (g g' : Int → Int → Bool) (a b d : ME ρ) : ME ρ := fun env => (toD a env).bind fun x env => (toD b env).bind fun y env => match x, y with
  | .int i, .int j => if g i j = true then (toD d env).bind fun z env => (match z with
      | .int l => .ok (.dat (.bl (g' j l))) env
      | _ => .bad) else .ok (.dat (.bl false)) env
  | _, _ => .bad
theorem sim_chain {g g' : Int → Int → Bool} {ta tb td : TE} {md : ME ρ} {K : PySem.W.Frag} (ha : SimE K c ta ma) (hb : SimE K c tb mb) (hd : SimE K c td md) :
    SimE K c (tChain (rI0 fun i j => .bl (g i j)) (rI0 fun i j => .bl (g' i j)) ta tb td) (mChain g g' ma mb md) := fun Γ H0 H σ env Q E w => by
  refine ha.toD Γ H0 H σ env _ E ((Wp.bind w).imp fun d1 env1 H1 H1' e1 q1 x E1 r1 => ?_)
  refine hb.toD Γ H1 H1' σ env1 _ E1 ((Wp.bind q1).imp fun d2 env2 H2 H2' e2 q2 y E2 r2 => ?_)
  cases d1 with
  | int i =>
    cases d2 with
    | int j =>
      cases r1.flat_int; cases r2.flat_int
      refine ⟨i, j, rfl, rfl, g i j, rfl, ?_⟩
      dsimp only at q2
      cases h : g i j with
      | true =>
        rw [h] at q2
        simp only [if_true] at q2 ⊢
        refine hd.toD Γ H2 H2' σ env2 _ E2 ((Wp.bind q2).imp fun d3 env3 H3 H3' e3 q3 z E3 r3 => ?_)
        cases d3 with
        | int l =>
          cases r3.flat_int
          exact ⟨j, l, rfl, rfl, q3 H3 H3' (Evl.Ex.refl _) _ (E3.dat (.bl _))⟩
        | _ => exact q3.elim
      | false =>
        rw [h] at q2
        simp only [Bool.false_eq_true, if_false] at q2 ⊢
        exact q2 H2 H2' (Evl.Ex.refl _) _ (E2.dat (.bl _))
    | _ => exact q2.elim
  | _ => cases d2 <;> exact q2.elim
def iLt (i j : Int) : Bool := decide (i < j)
def iLe (i j : Int) : Bool := decide (i ≤ j)
theorem em_chain {d : Expr} {md : ME ρ} {op op' : CmpOp} {g g' : Int → Int → Bool} (ho : OpR X (compareOp op) (rI0 fun i j => .bl (g i j))) (ho' : OpR X (compareOp op') (rI0 fun i j => .bl (g' i j))) (ha : EM X c a ma) (hb : EM X c b mb) (hd : EM X c d md)
    (hm : lastMarks [op, op'] [b, d] = false := by with_unfolding_all rfl) : EM X c (.Compare a [op, op'] [b, d] pos) (mChain g g' ma mb md) :=
  let ⟨_, h1, h2⟩ := ha; let ⟨_, g1, g2⟩ := hb; let ⟨_, k1, k2⟩ := hd; ⟨_, pe_chain ho ho' h1 g1 k1 hm, sim_chain h2 g2 k2⟩
theorem tm_chain {d : Expr} {md : ME ρ} {op op' : CmpOp} {g g' : Int → Int → Bool} (ho : OpR X (compareOp op) (rI0 fun i j => .bl (g i j))) (ho' : OpR X (compareOp op') (rI0 fun i j => .bl (g' i j))) (ha : EM X c a ma) (hb : EM X c b mb) (hd : EM X c d md)
    (hm : lastMarks [op, op'] [b, d] = false := by with_unfolding_all rfl) : TM X c (.Compare a [op, op'] [b, d] pos) (mTest (mChain g g' ma mb md)) :=
  let ⟨_, h1, h2⟩ := ha; let ⟨_, g1, g2⟩ := hb; let ⟨_, k1, k2⟩ := hd; ⟨_, pt_chain ho ho' h1 g1 k1 hm, sim_testT (sim_chain h2 g2 k2)⟩
theorem op_ltB : OpR X (compareOp .Lt) (rI0 fun i j => .bl (iLt i j)) := op_lt
theorem op_leB : OpR X (compareOp .LtE) (rI0 fun i j => .bl (iLe i j)) := op_le

/-- is None, is True -/
def dIs : D → D → Option (SV ρ)
  | x, .non => dat (.bl (isNon x))
  | .bl a, .bl b => dat (.bl (decide (a = b)))
  | _, _ => none
def dIsNot : D → D → Option (SV ρ)
  | x, .non => dat (.bl (!isNon x))
  | .bl a, .bl b => dat (.bl (!decide (a = b)))
  | _, _ => none
def rIsAll : R2 := fun x y H Q => (y = .non ∧ Q (.bl (decide (x = .non))) H) ∨ rIsB x y H Q
def rIsNotAll : R2 := fun x y H Q => (y = .non ∧ Q (.bl (!decide (x = .non))) H) ∨ rNotB x y H Q
theorem op_isAll : OpR X (compareOp .Is) rIsAll := op_isN.or op_isBl
theorem op_isNotAll : OpR X (compareOp .IsNot) rIsNotAll := op_notN.or op_notBl
theorem opm_is {K : PySem.W.Frag} : OpM ρ K c rIsAll dIs := by
  intro Γ H0 H σ env x y d1 d2 s Q E r1 r2 e q
  unfold dIs at e
  split at e
  · cases e
    refine .inl ⟨r2.flat_non, ?_⟩
    rw [rep_non r1]
    exact q _ H0 H (Evl.Ex.refl _) (E.dat (.bl _))
  · cases e
    cases r1.flat_bl; cases r2.flat_bl
    exact .inr ⟨_, _, rfl, rfl, q _ H0 H (Evl.Ex.refl _) (E.dat (.bl _))⟩
  · cases e
theorem opm_isNot {K : PySem.W.Frag} : OpM ρ K c rIsNotAll dIsNot := by
  intro Γ H0 H σ env x y d1 d2 s Q E r1 r2 e q
  unfold dIsNot at e
  split at e
  · cases e
    refine .inl ⟨r2.flat_non, ?_⟩
    rw [rep_non r1]
    exact q _ H0 H (Evl.Ex.refl _) (E.dat (.bl _))
  · cases e
    cases r1.flat_bl; cases r2.flat_bl
    exact .inr ⟨_, _, rfl, rfl, q _ H0 H (Evl.Ex.refl _) (E.dat (.bl _))⟩
  · cases e
theorem em_is (ha : EM X c a ma) (hb : EM X c b mb) : EM X c (.Compare a [.Is] [b] pos) (mOp dIs ma mb) := em_cmp op_isAll opm_is ha hb (nomark _)
theorem tm_is (ha : EM X c a ma) (hb : EM X c b mb) : TM X c (.Compare a [.Is] [b] pos) (mTest (mOp dIs ma mb)) := tm_cmp op_isAll opm_is ha hb (nomark _)
theorem em_isnot (ha : EM X c a ma) (hb : EM X c b mb) : EM X c (.Compare a [.IsNot] [b] pos) (mOp dIsNot ma mb) := em_cmp op_isNotAll opm_isNot ha hb (nomark _)
theorem tm_isnot (ha : EM X c a ma) (hb : EM X c b mb) : TM X c (.Compare a [.IsNot] [b] pos) (mTest (mOp dIsNot ma mb)) := tm_cmp op_isNotAll opm_isNot ha hb (nomark _)
theorem em_lt (ha : EM X c a ma) (hb : EM X c b mb) : EM X c (.Compare a [.Lt] [b] pos) (mOp dLt ma mb) := em_cmp L2.op_lt opm_lt ha hb (nomark _)
theorem tm_lt (ha : EM X c a ma) (hb : EM X c b mb) : TM X c (.Compare a [.Lt] [b] pos) (mTest (mOp dLt ma mb)) := tm_cmp L2.op_lt opm_lt ha hb (nomark _)
theorem em_le (ha : EM X c a ma) (hb : EM X c b mb) : EM X c (.Compare a [.LtE] [b] pos) (mOp dLe ma mb) := em_cmp L2.op_le opm_le ha hb (nomark _)
theorem tm_le (ha : EM X c a ma) (hb : EM X c b mb) : TM X c (.Compare a [.LtE] [b] pos) (mTest (mOp dLe ma mb)) := tm_cmp L2.op_le opm_le ha hb (nomark _)
theorem em_gt (ha : EM X c a ma) (hb : EM X c b mb) : EM X c (.Compare a [.Gt] [b] pos) (mOp dGt ma mb) := em_cmp L2.op_gt opm_gt ha hb (nomark _)
theorem tm_gt (ha : EM X c a ma) (hb : EM X c b mb) : TM X c (.Compare a [.Gt] [b] pos) (mTest (mOp dGt ma mb)) := tm_cmp L2.op_gt opm_gt ha hb (nomark _)
theorem em_ge (ha : EM X c a ma) (hb : EM X c b mb) : EM X c (.Compare a [.GtE] [b] pos) (mOp dGe ma mb) := em_cmp L2.op_ge opm_ge ha hb (nomark _)
theorem tm_ge (ha : EM X c a ma) (hb : EM X c b mb) : TM X c (.Compare a [.GtE] [b] pos) (mTest (mOp dGe ma mb)) := tm_cmp L2.op_ge opm_ge ha hb (nomark _)
theorem em_eq (hu : X.A.units + 64 < cLine) (ha : EM X c a ma) (hb : EM X c b mb) : EM X c (.Compare a [.Eq] [b] pos) (mOp dEq ma mb) := em_cmp (op_eqD hu) opm_eq ha hb (nomark _)
theorem tm_eq (hu : X.A.units + 64 < cLine) (ha : EM X c a ma) (hb : EM X c b mb) : TM X c (.Compare a [.Eq] [b] pos) (mTest (mOp dEq ma mb)) := tm_cmp (op_eqD hu) opm_eq ha hb (nomark _)
theorem em_ne (hu : X.A.units + 64 < cLine) (ha : EM X c a ma) (hb : EM X c b mb) : EM X c (.Compare a [.NotEq] [b] pos) (mOp dNe ma mb) := em_cmp (op_neD hu) opm_ne ha hb (nomark _)
theorem tm_ne (hu : X.A.units + 64 < cLine) (ha : EM X c a ma) (hb : EM X c b mb) : TM X c (.Compare a [.NotEq] [b] pos) (mTest (mOp dNe ma mb)) := tm_cmp (op_neD hu) opm_ne ha hb (nomark _)
/-- bools -/
theorem tm_val (h : EM X c e ma) (he : ∀ whole, isTrue e X.env whole = (do let v ← whole; standAt e.pos; holding [v] (truthy v)) := by intro _; rfl) : TM X c e (mTest ma) := let ⟨_, h1, h2⟩ := h; ⟨_, pt_val h1 he, sim_testB h2⟩
theorem tm_not (h : TM X c e p) : TM X c (.UnaryOp .Not e pos) (mNot p) := let ⟨_, h1, h2⟩ := h; ⟨_, pt_not h1, sim_not h2⟩
theorem wm_and1 (h : TM X c e p) : WM X c (.BoolOp .And [e] pos) p := let ⟨_, h1, h2⟩ := h; ⟨_, pw_and1 h1, h2⟩
theorem wm_or1 (h : TM X c e p) : WM X c (.BoolOp .Or [e] pos) p := let ⟨_, h1, h2⟩ := h; ⟨_, pw_or1 h1, h2⟩
theorem wm_and (h : TM X c a p) (g : WM X c (.BoolOp .And (b :: rest) pos) q) : WM X c (.BoolOp .And (a :: b :: rest) pos) (mAnd p q) := let ⟨_, h1, h2⟩ := h; let ⟨_, g1, g2⟩ := g; ⟨_, pw_and h1 g1, sim_and h2 g2⟩
theorem wm_or (h : TM X c a p) (g : WM X c (.BoolOp .Or (b :: rest) pos) q) : WM X c (.BoolOp .Or (a :: b :: rest) pos) (mOr p q) := let ⟨_, h1, h2⟩ := h; let ⟨_, g1, g2⟩ := g; ⟨_, pw_or h1 g1, sim_or h2 g2⟩
theorem WM.tm (h : WM X c e p) : TM X c e p := let ⟨_, h1, h2⟩ := h; ⟨_, h1.pt, h2⟩
theorem em_ifExp {t : Expr} (ht : TM X c t p) (ha : EM X c a ma) (hb : EM X c b mb) : EM X c (.IfExp t a b pos) (mIf p ma mb) := let ⟨_, k1, k2⟩ := ht; let ⟨_, h1, h2⟩ := ha; let ⟨_, g1, g2⟩ := hb; ⟨_, pe_ifExp k1 h1 g1, sim_if k2 h2 g2⟩
theorem em_one {op} (h : EM X c a ma) : EM X c (.BoolOp op [a] pos) ma := let ⟨_, h1, h2⟩ := h; ⟨_, pe_one h1, h2⟩
theorem em_andV (ha : EM X c a ma) (hb : EM X c (.BoolOp .And (b :: rest) pos) mb) : EM X c (.BoolOp .And (a :: b :: rest) pos) (mAndV ma mb) := let ⟨_, h1, h2⟩ := ha; let ⟨_, g1, g2⟩ := hb; ⟨_, pe_and h1 g1, sim_andV h2 g2⟩
theorem em_orV (ha : EM X c a ma) (hb : EM X c (.BoolOp .Or (b :: rest) pos) mb) : EM X c (.BoolOp .Or (a :: b :: rest) pos) (mOrV ma mb) := let ⟨_, h1, h2⟩ := ha; let ⟨_, g1, g2⟩ := hb; ⟨_, pe_or h1 g1, sim_orV h2 g2⟩
theorem em_notV (ha : EM X c a ma) : EM X c (.UnaryOp .Not a pos) (mNotV ma) := let ⟨_, h1, h2⟩ := ha; ⟨_, pe_not h1, sim_notV h2⟩

variable {es : List Expr} {as : MA ρ} {ms : List (ME ρ)}
theorem am_nil : AM X c [] (mArgs (ρ := ρ) []) := ⟨_, pa_nil, sim_nil⟩
theorem am_cons (ha : EM X c e ma) (hr : AM X c es (mArgs ms)) (hs : starEach (e :: es) X.env = (false, eval e X.env) :: starEach es X.env := by rfl) : AM X c (e :: es) (mArgs (ma :: ms)) := let ⟨_, h1, h2⟩ := ha; let ⟨_, g1, g2⟩ := hr; ⟨_, pa_cons h1 g1 hs, sim_cons h2 g2⟩
def mTup (as : MA ρ) : ME ρ := fun env => (as env).bind fun ds env => if ds.length ≤ sizeLine then .ok (.dat (.tup ds)) env else .bad
def mLst (as : MA ρ) : ME ρ := fun env => (as env).bind fun ds env => if ds.length ≤ sizeLine then .ok (.lst ds) env else .bad
theorem em_tup {k} (h : AM X c es as) : EM X c (.Tuple es k pos) (mTup as) := by
  obtain ⟨_, h1, h2⟩ := h
  refine ⟨_, pe_tup h1, fun Γ H0 H σ env Q E w => ?_⟩
  refine h2 Γ H0 H σ env _ E ((Wp.bind w).imp fun ds env1 H1 H1' e1 q1 xs E1 r1 => ?_)
  split at q1
  · rename_i hz
    refine ⟨by rw [r1.length]; exact hz, fun p hp => ?_⟩
    obtain ⟨H2, e2, R⟩ := E1.newTup hp r1
    exact q1 H2 _ e2 _ R
  · exact q1.elim
theorem em_lst (h : AM X c es as) : EM X c (.List es pos) (mLst as) := by
  obtain ⟨_, h1, h2⟩ := h
  refine ⟨_, pe_lst h1, fun Γ H0 H σ env Q E w => ?_⟩
  refine h2 Γ H0 H σ env _ E ((Wp.bind w).imp fun ds env1 H1 H1' e1 q1 xs E1 r1 => ?_)
  split at q1
  · rename_i hz
    refine ⟨by rw [r1.length]; exact hz, fun p hp => ?_⟩
    exact q1 H1 _ (Evl.Ex.refl _) _ (E1.fresh hp r1)
  · exact q1.elim
theorem em_ix (ha : EM X c a ma) (hb : EM X c b mb) (hs : PlainIx b := by exact fun _ _ => rfl) : EM X c (.Subscript a b pos) (mOp dIx ma mb) := let ⟨_, h1, h2⟩ := ha; let ⟨_, g1, g2⟩ := hb; ⟨_, pe_ix ix_seq h1 g1 hs, sim_op opm_ix h2 g2⟩
/-- built-ins by their names -/
theorem em_callB {id : String} {x : Str} {r : List V → Hp → VK → Prop} {f : List D → Option (SV ρ)} {p : Pos} (hm : X.mg x = none) (hc : CallR X (.builtin id) r) (hf : CallM ρ X.K c r f) (ha : AM X c (e :: es) as) (hg : Gl X x := by rfl) (hv : bootBuiltins x = some (.builtin id) := by decide +kernel)
    (hn : x ≠ "__name__" := by decide) (hdb : (x == ("__debug__" : Str)) = false := by decide) (he : starEach (e :: es) X.env = (false, eval e X.env) :: starEach es X.env := by rfl) (hpl : (backTo pos (starEach es X.env)).any (·.1) = false := by rfl) :
    EM X c (.Call (.Name x p) (e :: es) [] pos) (mBlt f as) := let ⟨_, h1, h2⟩ := ha; ⟨_, pe_callB hc hg hm hv h1 hn hdb he hpl, sim_blt hf h2⟩
theorem em_callTy {T : String} {x : Str} {r : List V → Hp → VK → Prop} {f : List D → Option (SV ρ)} {p : Pos} (hm : X.mg x = none) (hc : CallR X (.type T) r) (hf : CallM ρ X.K c r f) (ha : AM X c (e :: es) as) (hg : Gl X x := by rfl) (hv : bootBuiltins x = some (.type T) := by decide +kernel)
    (hn : x ≠ "__name__" := by decide) (hdb : (x == ("__debug__" : Str)) = false := by decide) (he : starEach (e :: es) X.env = (false, eval e X.env) :: starEach es X.env := by rfl) (hpl : (backTo pos (starEach es X.env)).any (·.1) = false := by rfl) :
    EM X c (.Call (.Name x p) (e :: es) [] pos) (mBlt f as) := let ⟨_, h1, h2⟩ := ha; ⟨_, pe_callTy hc hg hm hv h1 hn hdb he hpl, sim_blt hf h2⟩
end
end Mir
set_option Elab.async false
set_option linter.all false
set_option maxRecDepth 100000
set_option maxHeartbeats 4000000
/-! Mirror layer, part E: built-ins, slices, what loops walk. -/
namespace Mir
open PySem PySem.Spec L2
variable {ρ : Type} [Rsc ρ]

def dLen : List D → Option (SV ρ)
  | [.tup xs] => dat (.int xs.length)
  | [.lst xs] => dat (.int xs.length)
  | [.scr xs] => dat (.int xs.length)
  | [.str x] => if x.length ≤ sizeLine then dat (.int x.length) else none
  | _ => none
def dListOf : List D → Option (SV ρ)
  | [.tup xs] => some (.lst xs)
  | [.lst xs] => some (.lst xs)
  | [.scr xs] => some (.lst (xs.map .int))
  | _ => none
def dTupOf : List D → Option (SV ρ)
  | [.tup xs] => dat (.tup xs)
  | [.lst xs] => dat (.tup xs)
  | [.scr xs] => dat (.tup (xs.map .int))
  | _ => none
def dMax2 : List D → Option (SV ρ)
  | [.int i, .int j] => dat (.int (if j > i then j else i))
  | _ => none
def dMin2 : List D → Option (SV ρ)
  | [.int i, .int j] => dat (.int (if j < i then j else i))
  | _ => none
def dAbs : List D → Option (SV ρ)
  | [.int i] => dat (.int (if i < 0 then -i else i))
  | _ => none
def dInt1 : List D → Option (SV ρ)
  | [.int i] => dat (.int i)
  | [.bl b] => dat (.int (if b then 1 else 0))
  | _ => none
def asBls : List D → Option (List Bool)
  | [] => some []
  | .bl b :: r => (asBls r).map (b :: ·)
  | _ :: _ => none
def asInts : List D → Option (List Int)
  | [] => some []
  | .int b :: r => (asInts r).map (b :: ·)
  | _ :: _ => none
def dAll : List D → Option (SV ρ)
  | [.lst xs] => (asBls xs).map fun bs => .dat (.bl (bs.all id))
  | _ => none
def dAny : List D → Option (SV ρ)
  | [.lst xs] => (asBls xs).map fun bs => .dat (.bl (bs.any id))
  | _ => none
def dSum : List D → Option (SV ρ)
  | [.lst xs] => (asInts xs).map fun bs => .dat (.int bs.sum)
  | _ => none
theorem asBls_map : ∀ {xs : List D} {bs : List Bool}, asBls xs = some bs → xs = bs.map D.bl
  | [], bs, e => by cases e; rfl
  | .bl b :: r, bs, e => by
    unfold asBls at e
    cases z : asBls r with
    | none => rw [z] at e; cases e
    | some cs => rw [z] at e; cases e; rw [asBls_map z]; rfl
  | .non :: _, _, e => by cases e
  | .int _ :: _, _, e => by cases e
  | .str _ :: _, _, e => by cases e
  | .tup _ :: _, _, e => by cases e
  | .lst _ :: _, _, e => by cases e
  | .dct _ :: _, _, e => by cases e
  | .ins _ _ :: _, _, e => by cases e
  | .scr _ :: _, _, e => by cases e
theorem asInts_map : ∀ {xs : List D} {bs : List Int}, asInts xs = some bs → xs = bs.map D.int
  | [], bs, e => by cases e; rfl
  | .int b :: r, bs, e => by
    unfold asInts at e
    cases z : asInts r with
    | none => rw [z] at e; cases e
    | some cs => rw [z] at e; cases e; rw [asInts_map z]; rfl
  | .non :: _, _, e => by cases e
  | .bl _ :: _, _, e => by cases e
  | .str _ :: _, _, e => by cases e
  | .tup _ :: _, _, e => by cases e
  | .lst _ :: _, _, e => by cases e
  | .dct _ :: _, _, e => by cases e
  | .ins _ _ :: _, _, e => by cases e
  | .scr _ :: _, _, e => by cases e
@[simp] theorem asBls_of (bs : List Bool) : asBls (bs.map D.bl) = some bs := by induction bs with | nil => rfl | cons b r ih => simp [asBls, ih]
@[simp] theorem asInts_of (bs : List Int) : asInts (bs.map D.int) = some bs := by induction bs with | nil => rfl | cons b r ih => simp [asInts, ih]

section
variable {K : PySem.W.Frag} {c : Cm} {ca : Str → Addr} {H : Hp}
theorem repA1 {vs : List V} {d : D} (r : RepA K ca H vs [d]) : ∃ v, vs = [v] ∧ Rep K ca H v d := by
  cases r with
  | cons h t => cases t; exact ⟨_, rfl, h⟩
theorem repA2 {vs : List V} {d e : D} (r : RepA K ca H vs [d, e]) : ∃ v w, vs = [v, w] ∧ Rep K ca H v d ∧ Rep K ca H w e := by
  cases r with
  | cons h t =>
    obtain ⟨w, rfl, h2⟩ := repA1 t
    exact ⟨_, w, rfl, h, h2⟩
theorem callm_len : CallM ρ K c (fun xs H Q => ∃ x n, xs = [x] ∧ LenV K x H n ∧ Q (.int n) H) dLen := by
  intro Γ H0 H σ env vs ds s Q E r e q
  unfold dLen at e
  split at e
  · cases e
    obtain ⟨v, rfl, r9⟩ := repA1 r
    obtain ⟨a, xs, rfl, h1, g1⟩ := r9.of_tup
    refine ⟨_, _, rfl, .inr ⟨xs, SqT.up E h1, rfl⟩, ?_⟩
    rw [g1.length]
    exact q _ H0 H (Evl.Ex.refl _) (E.dat (.int _))
  · cases e
    obtain ⟨v, rfl, r9⟩ := repA1 r
    obtain ⟨a, xs, rfl, h1, g1⟩ := r9.of_lst
    refine ⟨_, _, rfl, .inl ⟨xs, SqL.of (E.sub _ _ h1), rfl⟩, ?_⟩
    rw [g1.length]
    exact q _ H0 H (Evl.Ex.refl _) (E.dat (.int _))
  · cases e
    obtain ⟨v, rfl, r9⟩ := repA1 r
    obtain ⟨a, rfl, h1⟩ := r9.of_scr
    refine ⟨_, _, rfl, .inl ⟨_, Evl.ex_l E.sub h1, rfl⟩, ?_⟩
    rw [List.length_map]
    exact q _ H0 H (Evl.Ex.refl _) (E.dat (.int _))
  · split at e
    · cases e
      rename_i hz
      obtain ⟨v, rfl, r9⟩ := repA1 r
      cases r9.flat_str
      exact ⟨_, _, rfl, ⟨hz, rfl⟩, q _ H0 H (Evl.Ex.refl _) (E.dat (.int _))⟩
    · cases e
  · cases e
theorem callm_list : CallM ρ K c (fun xs H Q => ∃ p ys, xs = [.ref p] ∧ (SqL K H p ys ∨ SqT K H p ys) ∧ ∀ l, H l = none → Q (.ref l) (upd H l (.lst ys))) dListOf := by
  intro Γ H0 H σ env vs ds s Q E r e q
  unfold dListOf at e
  split at e
  · cases e
    obtain ⟨v, rfl, r9⟩ := repA1 r
    obtain ⟨a, xs, rfl, h1, g1⟩ := r9.of_tup
    exact ⟨_, xs, rfl, .inr (SqT.up E h1), fun p hp => q _ H0 _ (Evl.Ex.refl _) (E.fresh hp g1)⟩
  · cases e
    obtain ⟨v, rfl, r9⟩ := repA1 r
    obtain ⟨a, xs, rfl, h1, g1⟩ := r9.of_lst
    exact ⟨_, xs, rfl, .inl (SqL.of (E.sub _ _ h1)), fun p hp => q _ H0 _ (Evl.Ex.refl _) (E.fresh hp g1)⟩
  · cases e
    obtain ⟨v, rfl, r9⟩ := repA1 r
    obtain ⟨a, rfl, h1⟩ := r9.of_scr
    exact ⟨_, _, rfl, .inl (Evl.ex_l E.sub h1), fun p hp => q _ H0 _ (Evl.Ex.refl _) (E.fresh hp (repA_ints _))⟩
  · cases e
theorem callm_tuple : CallM ρ K c (fun xs H Q => ∃ p ys, xs = [.ref p] ∧ ((SqL K H p ys ∧ ∀ l, H l = none → Q (.ref l) (upd H l (.tup ys))) ∨ (SqT K H p ys ∧ Q (.ref p) H))) dTupOf := by
  intro Γ H0 H σ env vs ds s Q E r e q
  unfold dTupOf at e
  split at e
  · cases e
    obtain ⟨v, rfl, r9⟩ := repA1 r
    obtain ⟨a, xs, rfl, h1, g1⟩ := r9.of_tup
    exact ⟨_, xs, rfl, .inr ⟨SqT.up E h1, q _ H0 _ (Evl.Ex.refl _) (E.dat r9)⟩⟩
  · cases e
    obtain ⟨v, rfl, r9⟩ := repA1 r
    obtain ⟨a, xs, rfl, h1, g1⟩ := r9.of_lst
    refine ⟨_, xs, rfl, .inl ⟨SqL.of (E.sub _ _ h1), fun p hp => ?_⟩⟩
    obtain ⟨H1, e1, R⟩ := E.newTup hp g1
    exact q _ H1 _ e1 R
  · cases e
    obtain ⟨v, rfl, r9⟩ := repA1 r
    obtain ⟨a, rfl, h1⟩ := r9.of_scr
    refine ⟨_, _, rfl, .inl ⟨Evl.ex_l E.sub h1, fun p hp => ?_⟩⟩
    obtain ⟨H1, e1, R⟩ := E.newTup hp (repA_ints _)
    exact q _ H1 _ e1 R
  · cases e
theorem callm_max2 : CallM ρ K c (fun xs H Q => ∃ i j, xs = [.int i, .int j] ∧ Q (.int (if j > i then j else i)) H) dMax2 := by
  intro Γ H0 H σ env vs ds s Q E r e q
  unfold dMax2 at e
  split at e
  · cases e
    obtain ⟨v, w, rfl, r1, r2⟩ := repA2 r
    cases r1.flat_int; cases r2.flat_int
    exact ⟨_, _, rfl, q _ H0 H (Evl.Ex.refl _) (E.dat (.int _))⟩
  · cases e
theorem callm_min2 : CallM ρ K c (fun xs H Q => ∃ i j, xs = [.int i, .int j] ∧ Q (.int (if j < i then j else i)) H) dMin2 := by
  intro Γ H0 H σ env vs ds s Q E r e q
  unfold dMin2 at e
  split at e
  · cases e
    obtain ⟨v, w, rfl, r1, r2⟩ := repA2 r
    cases r1.flat_int; cases r2.flat_int
    exact ⟨_, _, rfl, q _ H0 H (Evl.Ex.refl _) (E.dat (.int _))⟩
  · cases e
theorem callm_abs : CallM ρ K c (fun xs H Q => ∃ i, xs = [.int i] ∧ Q (.int (if i < 0 then -i else i)) H) dAbs := by
  intro Γ H0 H σ env vs ds s Q E r e q
  unfold dAbs at e
  split at e
  · cases e
    obtain ⟨v, rfl, r1⟩ := repA1 r
    cases r1.flat_int
    exact ⟨_, rfl, q _ H0 H (Evl.Ex.refl _) (E.dat (.int _))⟩
  · cases e
theorem callm_int1 : CallM ρ K c (fun xs H Q => (∃ i, xs = [.int i] ∧ Q (.int i) H) ∨ ∃ k, xs = [.bl k] ∧ Q (.int (if k then 1 else 0)) H) dInt1 := by
  intro Γ H0 H σ env vs ds s Q E r e q
  unfold dInt1 at e
  split at e
  · cases e
    obtain ⟨v, rfl, r1⟩ := repA1 r
    cases r1.flat_int
    exact .inl ⟨_, rfl, q _ H0 H (Evl.Ex.refl _) (E.dat (.int _))⟩
  · cases e
    obtain ⟨v, rfl, r1⟩ := repA1 r
    cases r1.flat_bl
    exact .inr ⟨_, rfl, q _ H0 H (Evl.Ex.refl _) (E.dat (.int _))⟩
  · cases e
theorem callm_all : CallM ρ K c (rAll K) dAll := by
  intro Γ H0 H σ env vs ds s Q E r e q
  unfold dAll at e
  split at e
  · rename_i xs
    cases z : asBls xs with
    | none => rw [z] at e; cases e
    | some bs =>
      rw [z] at e; cases e
      obtain ⟨v, rfl, r1⟩ := repA1 r
      obtain ⟨a, ws, rfl, h1, g1⟩ := r1.of_lst
      rw [asBls_map z] at g1
      rw [bls_of_repA g1] at h1
      exact ⟨a, bs, rfl, SqL.of (E.sub _ _ h1), q _ H0 H (Evl.Ex.refl _) (E.dat (.bl _))⟩
  · cases e
theorem callm_any : CallM ρ K c (rAny K) dAny := by
  intro Γ H0 H σ env vs ds s Q E r e q
  unfold dAny at e
  split at e
  · rename_i xs
    cases z : asBls xs with
    | none => rw [z] at e; cases e
    | some bs =>
      rw [z] at e; cases e
      obtain ⟨v, rfl, r1⟩ := repA1 r
      obtain ⟨a, ws, rfl, h1, g1⟩ := r1.of_lst
      rw [asBls_map z] at g1
      rw [bls_of_repA g1] at h1
      exact ⟨a, bs, rfl, SqL.of (E.sub _ _ h1), q _ H0 H (Evl.Ex.refl _) (E.dat (.bl _))⟩
  · cases e
theorem callm_sum : CallM ρ K c (rSum K) dSum := by
  intro Γ H0 H σ env vs ds s Q E r e q
  unfold dSum at e
  split at e
  · rename_i xs
    cases z : asInts xs with
    | none => rw [z] at e; cases e
    | some bs =>
      rw [z] at e; cases e
      obtain ⟨v, rfl, r1⟩ := repA1 r
      obtain ⟨a, ws, rfl, h1, g1⟩ := r1.of_lst
      rw [asInts_map z] at g1
      rw [ints_of_repA g1] at h1
      exact ⟨a, bs, rfl, SqL.of (E.sub _ _ h1), q _ H0 H (Evl.Ex.refl _) (E.dat (.int _))⟩
  · cases e

/-! ### isinstance(x, T), T a built-in type -/
def dTy : D → Option String
  | .non => some "NoneType"
  | .bl _ => some "bool"
  | .int _ => some "int"
  | .str _ => some "str"
  | .tup _ => some "tuple"
  | .lst _ => some "list"
  | .dct _ => some "dict"
  | .scr _ => some "list"
  | .ins _ _ => none
def dIsi (T : String) (x : D) : Option (SV ρ) := (dTy x).bind fun n => (kitB n T).map fun b => .dat (.bl b)
theorem tyx_of {x : V} {d : D} {n : String} (r : Rep K ca H x d) (e : dTy d = some n) : TyX K H x (.type n) := by
  cases r with
  | non => cases e; exact .base .non
  | bl b => cases e; exact .base (.bl b)
  | int b => cases e; exact .base (.int b)
  | str b => cases e; exact .base (.str b)
  | tup h _ =>
    cases e
    rcases h with (h | ⟨o, h⟩) | ⟨o, its, n, h1, h2, _⟩
    · exact .base (.tup h)
    · exact .fTuple h
    · exact .kTuple h1 h2
  | lst h _ => cases e; exact .base (.lst h)
  | dct0 h => cases e; exact .base (.dK h)
  | scr h =>
    cases e
    rcases h with (h | ⟨o, h⟩) | ⟨o, its, n, h1, h2, _⟩
    · exact .base (.lst h)
    · exact .base (.frz h)
    · exact .kList h1 h2
  | ins _ _ => cases e
end
section
variable {X : Cx} {c : Cm} {e b : Expr} {ma : ME ρ} {pos : Pos}
theorem em_isi {T : String} {Tn : Str} {pT p : Pos} (hm : X.mg "isinstance" = none) (hT : X.mg Tn = none) (ha : EM X c e ma) (hg : Gl X "isinstance" := by rfl) (hgT : Gl X Tn := by rfl) (hvT : bootBuiltins Tn = some (.type T) := by decide +kernel)
    (hnT : Tn ≠ "__name__" := by decide) (hdT : (Tn == ("__debug__" : Str)) = false := by decide)
    (hs1 : starEach [e, .Name Tn pT] X.env = (false, eval e X.env) :: starEach [.Name Tn pT] X.env := by rfl) (hs2 : starEach [.Name Tn pT] X.env = (false, eval (.Name Tn pT) X.env) :: starEach [] X.env := by rfl)
    (hpl : (backTo pos (starEach [.Name Tn pT] X.env)).any (·.1) = false := by rfl) :
    EM X c (.Call (.Name "isinstance" p) [e, .Name Tn pT] [] pos) (mUn (dIsi T) ma) := by
  obtain ⟨t, h1, h2⟩ := ha
  refine ⟨_, pe_callB call_isi hg hm PyProof.Rows.boot_isinstance (pa_cons h1 (pa_cons (pe_bltn (v := .ty T) hgT hT hvT rfl hnT hdT) pa_nil hs2) hs1) (he := hs1) (hpl := hpl), fun Γ H0 H σ env Q E w => ?_⟩
  refine h2.toD Γ H0 H σ env _ E ((Wp.bind w).imp fun d1 env1 H1 H1' e1 q1 x E1 r1 => ?_)
  unfold dIsi at q1
  cases z : dTy d1 with
  | none => rw [z] at q1; exact q1.elim
  | some n =>
    rw [z] at q1
    simp only [Option.bind_some] at q1
    cases z2 : kitB n T with
    | none => rw [z2] at q1; exact q1.elim
    | some b =>
      rw [z2] at q1
      exact ⟨x, .ty T, _, _, b, rfl, .ty T, tyx_of (r1.mono E1.sub) z, kit_ty z2, q1 H1 H1' (Evl.Ex.refl _) _ (E1.dat (.bl _))⟩
/-! ### slices -/
def OM (X : Cx) (c : Cm) (e : Option Expr) (m : Env ρ → Rs ρ (Option Int)) : Prop := ∃ t, PO X e t ∧ ∀ Γ H0 H σ env (Q : Option Int → Hp → Prop), EnvOk X.K c.ca c.ps Γ H0 H σ env → Wp X.K c Γ H0 (fun o env H0' H' => EnvOk X.K c.ca c.ps Γ H0' H' σ env → Q o H') (m env) → t σ H Q
def mNoPart : Env ρ → Rs ρ (Option Int) := fun env => .ok none env
def mPart (m : ME ρ) : Env ρ → Rs ρ (Option Int) := fun env => (toD m env).bind fun d env => match d with
  | .int i => .ok (some i) env
  | _ => .bad
theorem om_none : OM X c none (mNoPart (ρ := ρ)) := ⟨_, po_none, fun Γ H0 H σ env Q E w => w H0 H (Evl.Ex.refl _) E⟩
theorem om_some (h : EM X c e ma) : OM X c (some e) (mPart ma) := by
  obtain ⟨t, h1, h2⟩ := h
  refine ⟨_, po_some h1, fun Γ H0 H σ env Q E w => ?_⟩
  refine h2.toD Γ H0 H σ env _ E ((Wp.bind w).imp fun d1 env1 H1 H1' e1 q1 x E1 r1 => ?_)
  cases d1 with
  | int i => cases r1.flat_int; exact ⟨i, rfl, q1 H1 H1' (Evl.Ex.refl _) E1⟩
  | _ => exact q1.elim
def mSl (m : ME ρ) (lo hi : Env ρ → Rs ρ (Option Int)) : ME ρ := fun env => (toD m env).bind fun d env => (lo env).bind fun l env => (hi env).bind fun u env => match dSl d l u with
  | some s => .ok s env
  | none => .bad
def rSlAll (K : PySem.W.Frag) : V → Option Int → Option Int → Hp → VK → Prop := fun x lo hi H Q => rSlA K x lo hi H Q ∨ rSlL K x lo hi H Q ∨ rSlS x lo hi H Q
theorem sl_all : SlR X (rSlAll X.K) := sl_tupA.or (sl_list.or sl_str)
theorem sIx_map {α β : Type} (f : α → β) (xs : List α) (lo hi : Option Int) : cutD (xs.map f) lo hi = (cutD xs lo hi).map f := by
  unfold cutD; rw [List.length_map, ← List.map_drop, ← List.map_take]
theorem cut_whole {α : Type} {xs : List α} {lo hi : Option Int} (h : HT.sIx xs.length 0 lo = 0 ∧ HT.sIx xs.length xs.length hi = xs.length) : cutD xs lo hi = xs := by
  unfold cutD; rw [h.1, h.2]; simp
theorem em_sl {lo hi : Option Expr} {ml mh : Env ρ → Rs ρ (Option Int)} {p2 : Pos} (ha : EM X c e ma) (hl : OM X c lo ml) (hh : OM X c hi mh) : EM X c (.Subscript e (.Slice lo hi none p2) pos) (mSl ma ml mh) := by
  obtain ⟨ta, h1, h2⟩ := ha
  obtain ⟨tl, l1, l2⟩ := hl
  obtain ⟨th, u1, u2⟩ := hh
  refine ⟨_, pe_slice sl_all h1 l1 u1, fun Γ H0 H σ env Q E w => ?_⟩
  refine h2.toD Γ H0 H σ env _ E ((Wp.bind w).imp fun d1 env1 H1 H1' e1 q1 x E1 r1 => ?_)
  refine l2 Γ H1 H1' σ env1 _ E1 ((Wp.bind q1).imp fun l env2 H2 H2' e2 q2 E2 => ?_)
  refine u2 Γ H2 H2' σ env2 _ E2 ((Wp.bind q2).imp fun u env3 H3 H3' e3 q3 E3 => ?_)
  have r := r1.mono (e2.trans e3)
  cases z : dSl (ρ := ρ) d1 l u with
  | none => rw [z] at q3; exact q3.elim
  | some s =>
    rw [z] at q3
    unfold dSl at z
    split at z
    · cases z
      obtain ⟨a, xs, rfl, g1, g2⟩ := r.of_tup
      refine .inl ⟨a, xs, rfl, SqT.up E3 g1, fun hw => ?_, fun _ p hp => ?_⟩
      · rw [g2.length] at hw
        rw [cut_whole hw] at q3
        exact q3 H3 H3' (Evl.Ex.refl _) _ (E3.dat r)
      · obtain ⟨H4, e4, R⟩ := E3.newTup hp (g2.cut l u)
        exact q3 H4 _ e4 _ R
    · cases z
      obtain ⟨a, xs, rfl, g1, g2⟩ := r.of_lst
      exact .inr (.inl ⟨a, xs, rfl, SqL.of (E3.sub _ _ g1), fun p hp => q3 H3 _ (Evl.Ex.refl _) _ (E3.fresh hp (g2.cut l u))⟩)
    · cases z
      obtain ⟨a, rfl, g1⟩ := r.of_scr
      rw [← sIx_map] at q3
      exact .inr (.inl ⟨a, _, rfl, Evl.ex_l E3.sub g1, fun p hp => q3 H3 _ (Evl.Ex.refl _) _ (E3.fresh hp ((repA_ints _).cut l u))⟩)
    · split at z
      · cases z
        rename_i hz
        cases r.flat_str
        exact .inr (.inr ⟨_, rfl, hz, q3 H3 H3' (Evl.Ex.refl _) _ (E3.dat (.str _))⟩)
      · cases z
    · cases z
end
end Mir
set_option Elab.async false
set_option linter.all false
set_option maxRecDepth 100000
set_option maxHeartbeats 4000000
/-! Mirror layer, part F: statements, targets, own lists. -/
namespace Mir
open PySem PySem.Spec L2
variable {ρ : Type} [Rsc ρ]

/-- what a statement's mirror gives -/
inductive Sr (ρ : Type) where
  | nx (env : Env ρ) | rt (s : SV ρ) (env : Env ρ) | bk (env : Env ρ) | ct (env : Env ρ) | exc (c : Str) (env : Env ρ) | bad
abbrev MS (ρ : Type) := Env ρ → Sr ρ
def Rs.thenS {α : Type} (r : Rs ρ α) (f : α → Env ρ → Sr ρ) : Sr ρ :=
  match r with
  | .ok a env => f a env
  | .exc c env => .exc c env
  | .bad => .bad
@[simp] theorem Rs.thenS_ok {α : Type} (a : α) (env : Env ρ) (f : α → Env ρ → Sr ρ) : (Rs.ok a env).thenS f = f a env := rfl
@[simp] theorem Rs.thenS_exc {α : Type} (c : Str) (env : Env ρ) (f : α → Env ρ → Sr ρ) : (Rs.exc c env : Rs ρ α).thenS f = .exc c env := rfl
@[simp] theorem Rs.thenS_bad {α : Type} (f : α → Env ρ → Sr ρ) : (Rs.bad : Rs ρ α).thenS f = .bad := rfl
def WpS (K : PySem.W.Frag) (c : Cm) (Γ : Gam) (H0 : Hp) (D : Ends) : Sr ρ → Prop
  | .nx env => ∀ σ H0' H, Ex H0 H0' → EnvOk K c.ca c.ps Γ H0' H σ env → D.nx σ H
  | .rt s env => ∀ σ H0' H v, Ex H0 H0' → ResOk K c.ca c.ps Γ H0' H σ env v s → D.rt v H
  | .bk env => ∀ σ H0' H, Ex H0 H0' → EnvOk K c.ca c.ps Γ H0' H σ env → D.bk σ H
  | .ct env => ∀ σ H0' H, Ex H0 H0' → EnvOk K c.ca c.ps Γ H0' H σ env → D.ct σ H
  | .exc x env => ∀ σ H0' H, EnvOk K c.ca c.ps Γ H0' H σ env → c.E x H
  | .bad => False
theorem WpS.mono {K : PySem.W.Frag} {c : Cm} {Γ : Gam} {H0 H0' : Hp} {D : Ends} {r : Sr ρ} (e : Ex H0 H0') (h : WpS K c Γ H0 D r) : WpS K c Γ H0' D r := by
  cases r with
  | nx env => exact fun σ H1 H e1 => h σ H1 H (e.trans e1)
  | rt s env => exact fun σ H1 H v e1 => h σ H1 H v (e.trans e1)
  | bk env => exact fun σ H1 H e1 => h σ H1 H (e.trans e1)
  | ct env => exact fun σ H1 H e1 => h σ H1 H (e.trans e1)
  | exc x env => exact h
  | bad => exact h
def SimS (K : PySem.W.Frag) (c : Cm) (t : TS) (m : MS ρ) : Prop := ∀ Γ H0 H σ env D, EnvOk K c.ca c.ps Γ H0 H σ env → WpS K c Γ H0 D (m env) → t D σ H
def SM (X : Cx) (c : Cm) (st : Stmt) (m : MS ρ) : Prop := ∃ t, PS X st t ∧ SimS X.K c t m
def BM (X : Cx) (c : Cm) (sts : List Stmt) (m : MS ρ) : Prop := ∃ t, PSs X sts t ∧ SimS X.K c t m
/-- only the slots ss may have changed -/
def SameOut (σ σ' : St) (ss : List Nat) : Prop := σ'.length = σ.length ∧ ∀ j, j ∉ ss → σ'[j]? = σ[j]?
/-- a target takes a datum: the mirror, the slots that it may change -/
def GM (X : Cx) (c : Cm) (tg : Expr) (g : D → Env ρ → Rs ρ Unit) (ss : List Nat) : Prop := ∃ t, PG X tg t ∧ ∀ Γ H0 H σ env x d (Q : St → Hp → Prop), EnvOk X.K c.ca c.ps Γ H0 H σ env → Rep X.K c.ca H0 x d →
  Wp X.K c Γ H0 (fun _ env H0' H' => ∀ σ', EnvOk X.K c.ca c.ps Γ H0' H' σ' env → SameOut σ σ' ss → Q σ' H') (g d env) → t x σ H Q
def GMs (X : Cx) (c : Cm) (tg : List Expr) (g : List D → Env ρ → Rs ρ Unit) (ss : List Nat) : Prop := ∃ t, PGs X tg t ∧ ∀ Γ H0 H σ env xs ds (Q : St → Hp → Prop), EnvOk X.K c.ca c.ps Γ H0 H σ env → RepA X.K c.ca H0 xs ds →
  Wp X.K c Γ H0 (fun _ env H0' H' => ∀ σ', EnvOk X.K c.ca c.ps Γ H0' H' σ' env → SameOut σ σ' ss → Q σ' H') (g ds env) → t xs σ H Q

section
variable {K : PySem.W.Frag} {c : Cm} {X : Cx} {e a b : Expr} {ma mb : ME ρ} {pos : Pos} {st : Stmt} {rest sa sb : List Stmt} {m n : MS ρ} {p : MT ρ}
/-- what is wanted behind an expression in a statement -/
theorem Wp.ofS {α : Type} {Γ : Gam} {H0 : Hp} {D : Ends} {r : Rs ρ α} {f : α → Env ρ → Sr ρ} (h : WpS K c Γ H0 D (r.thenS f)) : Wp K c Γ H0 (fun a env H0' _ => WpS K c Γ H0' D (f a env)) r := by
  cases r with
  | ok a env => exact fun _ _ e => WpS.mono e h
  | exc x env => exact fun H0' H' σ' E => h σ' H0' H' E
  | bad => exact h
def sNext : MS ρ := fun env => .nx env
def sSeq (m n : MS ρ) : MS ρ := fun env => match m env with
  | .nx env => n env
  | r => r
theorem bm_nil : BM X c [] (sNext (ρ := ρ)) := ⟨_, pss_nil, fun Γ H0 H σ env D E w => w σ H0 H (Evl.Ex.refl _) E⟩
theorem bm_cons (h : SM X c st m) (g : BM X c rest n) : BM X c (st :: rest) (sSeq m n) := by
  obtain ⟨t, h1, h2⟩ := h
  obtain ⟨u, g1, g2⟩ := g
  refine ⟨_, pss_cons h1 g1, fun Γ H0 H σ env D E w => ?_⟩
  refine h2 Γ H0 H σ env _ E ?_
  unfold sSeq at w
  cases z : m env with
  | nx env1 => rw [z] at w; exact fun σ1 H1 H1' e1 E1 => g2 Γ H1 H1' σ1 env1 D E1 (WpS.mono e1 w)
  | rt s env1 => rw [z] at w; exact w
  | bk env1 => rw [z] at w; exact w
  | ct env1 => rw [z] at w; exact w
  | exc x env1 => rw [z] at w; exact w
  | bad => rw [z] at w; exact w
theorem bm_one (h : SM X c st m) : BM X c [st] m := let ⟨_, h1, h2⟩ := h; ⟨_, pss_one h1, h2⟩
/-- a step that is not in the text: what is known of the slots is weakened -/
def Ghost (f : Env ρ → Env ρ) : Prop := ∀ K ca ps Γ H0 H σ (env : Env ρ), EnvOk K ca ps Γ H0 H σ env → ∃ H0', Ex H0 H0' ∧ EnvOk K ca ps Γ H0' H σ (f env)
theorem bm_ghost {f : Env ρ → Env ρ} (hf : Ghost f) (h : BM X c rest m) : BM X c rest (fun env => m (f env)) := by
  obtain ⟨t, h1, h2⟩ := h
  refine ⟨_, h1, fun Γ H0 H σ env D E w => ?_⟩
  obtain ⟨H1, e1, E1⟩ := hf _ _ _ _ _ _ _ _ E
  exact h2 Γ H1 H σ (f env) D E1 (WpS.mono e1 w)
def gFreeze (i : Nat) (env : Env ρ) : Env ρ := match env[i]? with
  | some (.lst xs) => env.set i (.dat (.lst xs))
  | _ => env
theorem ghost_freeze (i : Nat) : Ghost (gFreeze (ρ := ρ) i) := fun K ca ps Γ H0 H σ env E => by
  unfold gFreeze
  split
  · rename_i xs h
    exact E.freeze h
  · exact ⟨H0, Evl.Ex.refl _, E⟩
def gForget (is : List Nat) (env : Env ρ) : Env ρ := is.foldl (fun env i => env.set i .no) env
theorem EnvOk.forgets {ca : Str → Addr} {ps : List Nat} {Γ : Gam} {H0 H : Hp} {σ : St} : ∀ (is : List Nat) {env : Env ρ}, EnvOk K ca ps Γ H0 H σ env → EnvOk K ca ps Γ H0 H σ (gForget is env)
  | [], _, E => E
  | i :: r, _, E => EnvOk.forgets r (E.forget i)
theorem ghost_forget (is : List Nat) : Ghost (gForget (ρ := ρ) is) := fun K ca ps Γ H0 H σ env E => ⟨H0, Evl.Ex.refl _, E.forgets is⟩
def sExpr (a : ME ρ) : MS ρ := fun env => (a env).thenS fun _ env => .nx env
theorem sm_expr (h : EM X c e ma) (hs : swapsWith e none pos.line X.env = pure false := by rfl) : SM X c (.Expr e pos) (sExpr ma) := by
  obtain ⟨t, h1, h2⟩ := h
  refine ⟨_, ps_expr h1 hs, fun Γ H0 H σ env D E w => ?_⟩
  exact h2 Γ H0 H σ env _ E ((Wp.ofS w).imp fun s env1 H1 H1' e1 q v R => q σ H1 H1' (Evl.Ex.refl _) R.toEnv)
def sRet (a : ME ρ) : MS ρ := fun env => (a env).thenS fun s env => .rt s env
theorem sm_ret (h : EM X c e ma) : SM X c (.Return (some e) pos) (sRet ma) := by
  obtain ⟨t, h1, h2⟩ := h
  refine ⟨_, ps_ret h1, fun Γ H0 H σ env D E w => ?_⟩
  exact h2 Γ H0 H σ env _ E ((Wp.ofS w).imp fun s env1 H1 H1' e1 q v R => q σ H1 H1' v (Evl.Ex.refl _) R)
def sRetN : MS ρ := fun env => .rt (.dat .non) env
theorem sm_retN : SM X c (.Return none pos) (sRetN (ρ := ρ)) := ⟨_, ps_retN, fun Γ H0 H σ env D E w => w σ H0 H .non (Evl.Ex.refl _) (E.dat .non)⟩
def sIf (p : MT ρ) (m n : MS ρ) : MS ρ := fun env => (p env).thenS fun b env => if b = true then m env else n env
theorem sm_if (hp : TM X c e p) (hm : BM X c sa m) (hn : BM X c sb n) : SM X c (.If e sa sb pos) (sIf p m n) := by
  obtain ⟨t, h1, h2⟩ := hp
  obtain ⟨u, g1, g2⟩ := hm
  obtain ⟨v, k1, k2⟩ := hn
  refine ⟨_, ps_if h1 g1 k1, fun Γ H0 H σ env D E w => ?_⟩
  refine h2 Γ H0 H σ env _ E ((Wp.ofS w).imp fun b env1 H1 H1' e1 q E1 => ?_)
  cases b with
  | true => exact g2 Γ H1 H1' σ env1 D E1 q
  | false => exact k2 Γ H1 H1' σ env1 D E1 q
def sNever : MS ρ := fun _ => .bad
theorem sm_never : SM X c st (sNever (ρ := ρ)) := ⟨_, ps_never, fun Γ H0 H σ env D E w => w.elim⟩
theorem sm_pass : SM X c (.Pass pos) (sNext (ρ := ρ)) := ⟨_, ps_pass, fun Γ H0 H σ env D E w => w σ H0 H (Evl.Ex.refl _) E⟩
def sBreak : MS ρ := fun env => .bk env
def sCont : MS ρ := fun env => .ct env
theorem sm_break : SM X c (.Break pos) (sBreak (ρ := ρ)) := ⟨_, ps_break, fun Γ H0 H σ env D E w => w σ H0 H (Evl.Ex.refl _) E⟩
theorem sm_cont : SM X c (.Continue pos) (sCont (ρ := ρ)) := ⟨_, ps_continue, fun Γ H0 H σ env D E w => w σ H0 H (Evl.Ex.refl _) E⟩

/-! ### name = value -/
def sAsg (i : Nat) (a : ME ρ) : MS ρ := fun env => (a env).thenS fun s env => .nx (env.set i s)
theorem sim_asg {te : TE} {i : Nat} (hi : i ∉ c.ps) (h : SimE K c te ma) : SimS K c (tAsg te (gName i)) (sAsg i ma) := fun Γ H0 H σ env D E w =>
  h Γ H0 H σ env _ E ((Wp.ofS w).imp fun s env1 H1 H1' e1 q v R => q _ H1 H1' (Evl.Ex.refl _) (R.put hi))
theorem sm_set {i : Nat} {x : Str} {pos' : Pos} (hp : i ∉ c.ps) (hN : X.N.Nodup) (h : EM X c e ma) (hi : X.N[i]? = some x := by rfl) (hx : Loc X.env.scope x := by first | exact Or.inl rfl | exact Or.inr rfl) (hs : swapsWith e (some (.Name x pos')) pos.line X.env = pure false := by rfl)
    (hf : X.fn x = true ∨ X.env.scope.names.lookup x = some .local := by first | exact .inl rfl | exact .inr rfl) : SM X c (.Assign [.Name x pos'] e pos) (sAsg i ma) :=
  let ⟨_, h1, h2⟩ := h; ⟨_, ps_set hN hi hx h1 hs hf, sim_asg hp h2⟩
/-! ### targets -/
def tgN (i : Nat) : D → Env ρ → Rs ρ Unit := fun d env => .ok () (env.set i (.dat d))
theorem gm_name {i : Nat} {x : Str} (hp : i ∉ c.ps) (hN : X.N.Nodup) (hi : X.N[i]? = some x := by rfl) (hx : Loc X.env.scope x := by first | exact Or.inl rfl | exact Or.inr rfl)
    (hf : X.fn x = true ∨ X.env.scope.names.lookup x = some .local := by first | exact .inl rfl | exact .inr rfl) : GM X c (.Name x pos) (tgN (ρ := ρ) i) [i] :=
  ⟨_, pg_name hN hi hx hf, fun Γ H0 H σ env x d Q E r w => w H0 H (Evl.Ex.refl _) _ (E.setDat hp r) ⟨List.length_set .., fun j hj => List.getElem?_set_ne (fun z => hj (by simp [z]))⟩⟩
def tgNil : List D → Env ρ → Rs ρ Unit := fun ds env => match ds with
  | [] => .ok () env
  | _ => .bad
def tgCons (g : D → Env ρ → Rs ρ Unit) (h : List D → Env ρ → Rs ρ Unit) : List D → Env ρ → Rs ρ Unit := fun ds env => match ds with
  | d :: r => (g d env).bind fun _ env => h r env
  | [] => .bad
theorem gms_nil : GMs X c [] (tgNil (ρ := ρ)) [] := ⟨_, pgs_nil, fun Γ H0 H σ env xs ds Q E r w => by
  cases r with
  | nil => exact ⟨rfl, w H0 H (Evl.Ex.refl _) σ E ⟨rfl, fun _ _ => rfl⟩⟩
  | cons _ _ => exact w.elim⟩
theorem gms_cons {es : List Expr} {g : D → Env ρ → Rs ρ Unit} {h : List D → Env ρ → Rs ρ Unit} {s1 s2 : List Nat} (h1 : GM X c e g s1) (h2 : GMs X c es h s2) (hs : (assignEach (e :: es) X.env).map (·.2) = assign e X.env :: (assignEach es X.env).map (·.2) := by rfl) : GMs X c (e :: es) (tgCons g h) (s1 ++ s2) := by
  obtain ⟨t, a1, a2⟩ := h1
  obtain ⟨u, b1, b2⟩ := h2
  refine ⟨_, pgs_cons a1 b1 hs, fun Γ H0 H σ env xs ds Q E r w => ?_⟩
  cases r with
  | nil => exact w.elim
  | cons r rs =>
    refine ⟨_, _, rfl, a2 Γ H0 H σ env _ _ _ E r ((Wp.bind w).imp fun _ env1 H1 H1' e1 q σ1 E1 k1 => ?_)⟩
    refine b2 Γ H1 H1' σ1 env1 _ _ _ E1 (rs.mono e1) (Wp.imp q fun _ env2 H2 H2' e2 q2 σ2 E2 k2 => ?_)
    exact q2 σ2 E2 ⟨k2.1.trans k1.1, fun j hj => (k2.2 j fun z => hj (List.mem_append_right _ z)).trans (k1.2 j fun z => hj (List.mem_append_left _ z))⟩
def tgT (n : Nat) (g : List D → Env ρ → Rs ρ Unit) : D → Env ρ → Rs ρ Unit := fun d env => match d with
  | .tup ds => if ds.length = n then g ds env else .bad
  | _ => .bad
theorem gm_tup {es : List Expr} {k n : Nat} {g : List D → Env ρ → Rs ρ Unit} {ss : List Nat} (hc : X.calm = true) (h : GMs X c es g ss) (hn : (assignEach es X.env).length = n := by rfl) (hst : (assignEach es X.env).findIdx? (·.1) = none := by rfl) : GM X c (.Tuple es k pos) (tgT n g) ss := by
  obtain ⟨t, h1, h2⟩ := h
  refine ⟨_, pg_tup hc h1 hn hst, fun Γ H0 H σ env x d Q E r w => ?_⟩
  cases d with
  | tup ds =>
    obtain ⟨a, xs, rfl, g1, g2⟩ := r.of_tup
    by_cases hl : ds.length = n
    · have w2 : Wp X.K c Γ H0 _ (if ds.length = n then g ds env else .bad) := w
      rw [if_pos hl] at w2
      exact ⟨a, xs, rfl, SqT.up E g1, by rw [g2.length]; exact hl, h2 Γ H0 H σ env xs ds Q E g2 w2⟩
    · have w2 : Wp X.K c Γ H0 _ (if ds.length = n then g ds env else .bad) := w
      rw [if_neg hl] at w2
      exact w2.elim
  | _ => exact w.elim
def sAsgG (g : D → Env ρ → Rs ρ Unit) (a : ME ρ) : MS ρ := fun env => (toD a env).thenS fun d env => (g d env).thenS fun _ env => .nx env
theorem sm_asg {tg : Expr} {g : D → Env ρ → Rs ρ Unit} {ss : List Nat} (h : EM X c e ma) (hg : GM X c tg g ss) (hs : swapsWithSole [tg] e pos.line X.env = pure false := by rfl) (hw : swappedStores [tg] e X.env = pure none := by rfl)
    (h1 : (assignEach [tg] X.env).map (·.2) = [assign tg X.env] := by rfl) : SM X c (.Assign [tg] e pos) (sAsgG g ma) := by
  obtain ⟨t, a1, a2⟩ := h
  obtain ⟨u, b1, b2⟩ := hg
  refine ⟨_, ps_asg a1 b1 hs hw h1, fun Γ H0 H σ env D E w => ?_⟩
  refine a2.toD Γ H0 H σ env _ E ((Wp.ofS w).imp fun d env1 H1 H1' e1 q x E1 r => ?_)
  exact b2 Γ H1 H1' σ env1 x d _ E1 r ((Wp.ofS q).imp fun _ env2 H2 H2' e2 q2 σ2 E2 _ => q2 σ2 H2 H2' (Evl.Ex.refl _) E2)

/-! ### lists of one's own -/
def OwnM (K : PySem.W.Frag) (ca : Str → Addr) (r : V → List V → Hp → VK → Prop) (f : List D → List D → Option (List D × D)) : Prop := ∀ H0 H p vs xs ws ds ys d Q, H p = some (.lst vs) → Ex H0 H → RepA K ca H0 vs xs → RepA K ca H0 ws ds → f xs ds = some (ys, d) →
  (∀ v us, Rep K ca H0 v d → RepA K ca H0 us ys → Q v (upd H p (.lst us))) → r (.ref p) ws H Q
def mOwn (i : Nat) (f : List D → List D → Option (List D × D)) (as : MA ρ) : ME ρ := fun env => match env[i]? with
  | some (.lst _) => (as env).bind fun ds env => (match env[i]? with
    | some (.lst xs) => (match f xs ds with
      | some (ys, d) => .ok (.dat d) (env.set i (.lst ys))
      | none => .bad)
    | _ => .bad)
  | _ => .bad
theorem own_end {r : V → List V → Hp → VK → Prop} {f : List D → List D → Option (List D × D)} {i : Nat} (hf : OwnM K c.ca r f) {Γ : Gam} {H0 H : Hp} {σ : St} {env : Env ρ} {Q : VK} {p : Addr} {ws : List V} {ds : List D} (E : EnvOk K c.ca c.ps Γ H0 H σ env)
    (hp : σ[i]? = some (some (.ref p))) (r1 : RepA K c.ca H0 ws ds) (w : Wp K c Γ H0 (PostE K c Γ σ Q) (match env[i]? with
    | some (.lst xs) => (match f xs ds with
      | some (ys, d) => .ok (.dat d) (env.set i (.lst ys))
      | none => .bad)
    | _ => .bad)) : r (.ref p) ws H Q := by
  cases z : env[i]? with
  | none => rw [z] at w; exact w.elim
  | some s =>
    rw [z] at w
    cases s with
    | lst xs =>
      dsimp only at w
      cases z2 : f xs ds with
      | none => rw [z2] at w; exact w.elim
      | some yd =>
        obtain ⟨ys, d⟩ := yd
        rw [z2] at w
        obtain ⟨p', vs, h1, h2, h3, h4⟩ := E.own z
        rw [hp] at h1
        cases h1
        refine hf H0 H p vs xs ws ds ys d Q h2 E.sub h3 r1 z2 fun v us rv rus => ?_
        exact w H0 _ (Evl.Ex.refl _) v ((E.mutate z hp rus).dat rv)
    | _ => exact w.elim
theorem em_own {r : V → List V → Hp → VK → Prop} {f : List D → List D → Option (List D × D)} {es : List Expr} {as : MA ρ} {i : Nat} {x : Str} {px apos : Pos} {name : Str} {id : String} (slot : Slot "list" name id) (hty : typeOf (.builtin id) = pure (.type "method_descriptor")) (hm : MtR X id r) (hf : OwnM X.K c.ca r f)
    (ha : AM X c (e :: es) as) (hN : X.N[i]? = some x := by rfl) (hv : Vis X.env.scope x := by first | exact Or.inl rfl | exact Or.inr (Or.inl rfl) | exact Or.inr (Or.inr rfl)) (hd : (x == ("__debug__" : Str)) = false := by decide)
    (hcd : (x == ("__classdict__" : Str)) = false := by decide)
    (hbase : attributeBase (.Name x px) name X.env (eval (.Name x px) X.env) = eval (.Name x px) X.env := by rfl)
    (hfew : ((backTo pos (starEach (e :: es) X.env)).all (fun x => !x.1) && (backToKw pos (keywordEach [] X.env)).all (fun x => x.1.isSome)
      && decide ((e :: es).length + ([] : List Keyword).length + (if ([] : List Keyword).isEmpty then 0 else 1) < 30)) = true := by rfl)
    (hline : (apos.endLine == pos.line) = true := by rfl) (hs : starEach (e :: es) X.env = (false, eval e X.env) :: starEach es X.env := by rfl) (hplain : (backTo pos (starEach es X.env)).any (·.1) = false := by rfl) :
    EM X c (.Call (.Attribute (.Name x px) name apos) (e :: es) [] pos) (mOwn i f as) := by
  obtain ⟨t, a1, a2⟩ := ha
  refine ⟨_, pe_bm PySem.F.plainAttrs_list slot hty hm (pe_var (i := i) hN hv hd hcd) a1 hbase hfew hline hs hplain, fun Γ H0 H σ env Q E w => ?_⟩
  unfold mOwn at w
  cases z : env[i]? with
  | none => rw [z] at w; exact w.elim
  | some s =>
    rw [z] at w
    cases s with
    | lst xs =>
      obtain ⟨p, vs, h1, h2, h3, h4⟩ := E.own z
      refine ⟨_, h1, .inl ⟨rfl, _, SqL.of h2⟩, ?_⟩
      refine a2 Γ H0 H σ env _ E ((Wp.bind w).imp fun ds env1 H1 H1' e1 q ws E1 r1 => ?_)
      exact own_end hf E1 h1 r1 q
    | _ => exact w.elim
theorem em_own0 {r : V → List V → Hp → VK → Prop} {f : List D → List D → Option (List D × D)} {i : Nat} {x : Str} {px apos : Pos} {name : Str} {id : String} (slot : Slot "list" name id) (hty : typeOf (.builtin id) = pure (.type "method_descriptor")) (hm : MtR X id r) (hf : OwnM X.K c.ca r f)
    (hN : X.N[i]? = some x := by rfl) (hv : Vis X.env.scope x := by first | exact Or.inl rfl | exact Or.inr (Or.inl rfl) | exact Or.inr (Or.inr rfl)) (hd : (x == ("__debug__" : Str)) = false := by decide)
    (hcd : (x == ("__classdict__" : Str)) = false := by decide)
    (hbase : attributeBase (.Name x px) name X.env (eval (.Name x px) X.env) = eval (.Name x px) X.env := by rfl)
    (hline : (apos.endLine == pos.line) = true := by rfl) :
    EM X c (.Call (.Attribute (.Name x px) name apos) [] [] pos) (mOwn (ρ := ρ) i f (mArgs [])) := by
  refine ⟨_, pe_bm0 PySem.F.plainAttrs_list slot hty hm (pe_var (i := i) hN hv hd hcd) hbase hline, fun Γ H0 H σ env Q E w => ?_⟩
  unfold mOwn at w
  cases z : env[i]? with
  | none => rw [z] at w; exact w.elim
  | some s =>
    rw [z] at w
    cases s with
    | lst xs =>
      obtain ⟨p, vs, h1, h2, h3, h4⟩ := E.own z
      exact ⟨_, h1, .inl ⟨rfl, _, SqL.of h2⟩, own_end hf E h1 .nil w⟩
    | _ => exact w.elim
def fAppend : List D → List D → Option (List D × D)
  | xs, [d] => if xs.length < sizeLine then some (xs ++ [d], .non) else none
  | _, _ => none
theorem ownm_append {ca : Str → Addr} : OwnM K ca rAppend fAppend := by
  intro H0 H p vs xs ws ds ys d Q h1 e r1 r2 hf q
  unfold fAppend at hf
  split at hf
  · split at hf
    · cases hf
      rename_i hz
      obtain ⟨v, rfl, r⟩ := repA1 r2
      exact ⟨p, vs, v, rfl, rfl, h1, by rw [r1.length]; exact hz, q _ _ .non (r1.append (.cons r .nil))⟩
    · cases hf
  · cases hf
def fExtend : List D → List D → Option (List D × D)
  | xs, [.lst zs] => if xs.length + zs.length ≤ sizeLine then some (xs ++ zs, .non) else none
  | _, _ => none
theorem ownm_extend {ca : Str → Addr} : OwnM K ca rExtend fExtend := by
  intro H0 H p vs xs ws ds ys d Q h1 e r1 r2 hf q
  unfold fExtend at hf
  split at hf
  · split at hf
    · cases hf
      rename_i hz
      obtain ⟨v, rfl, r⟩ := repA1 r2
      obtain ⟨b, us, rfl, g1, g2⟩ := r.of_lst
      exact ⟨p, b, vs, us, rfl, rfl, h1, e _ _ g1, by rw [r1.length, g2.length]; exact hz, q _ _ .non (r1.append g2)⟩
    · cases hf
  · cases hf
def fPop : List D → List D → Option (List D × D)
  | xs, [] => xs[xs.length - 1]?.map fun d => (xs.dropLast, d)
  | _, _ => none
theorem RepA.dropLast {ca : Str → Addr} {H : Hp} {vs : List V} {ds : List D} (r : RepA K ca H vs ds) : RepA K ca H vs.dropLast ds.dropLast := by
  rw [List.dropLast_eq_take, List.dropLast_eq_take, r.length]
  exact RepA.take _ r
theorem ownm_pop {ca : Str → Addr} : OwnM K ca rPop fPop := by
  intro H0 H p vs xs ws ds ys d Q h1 e r1 r2 hf q
  unfold fPop at hf
  split at hf
  · cases z : xs[xs.length - 1]? with
    | none => rw [z] at hf; cases hf
    | some d' =>
      rw [z] at hf; cases hf
      cases r2
      obtain ⟨v, g1, g2⟩ := r1.get z
      exact ⟨p, vs, v, rfl, rfl, h1, by rw [r1.length]; exact g1, q _ _ g2 r1.dropLast⟩
  · cases hf
def fPopAt : List D → List D → Option (List D × D)
  | xs, [.int i] => if -(2 ^ 63) ≤ i ∧ i < 2 ^ 63 then (ixN xs.length i).bind fun k => xs[k]?.map fun d => (xs.eraseIdx k, d) else none
  | _, _ => none
theorem RepA.erase {ca : Str → Addr} {H : Hp} : ∀ (k : Nat) {vs : List V} {ds : List D}, RepA K ca H vs ds → RepA K ca H (vs.eraseIdx k) (ds.eraseIdx k)
  | _, _, _, .nil => .nil
  | 0, _, _, .cons _ r => r
  | k + 1, _, _, .cons h r => .cons h (RepA.erase k r)
theorem ownm_popAt {ca : Str → Addr} : OwnM K ca rPopAt fPopAt := by
  intro H0 H p vs xs ws ds ys d Q h1 e r1 r2 hf q
  unfold fPopAt at hf
  split at hf
  · rename_i i
    split at hf
    · rename_i hz
      cases z0 : ixN xs.length i with
      | none => rw [z0] at hf; cases hf
      | some k =>
        rw [z0] at hf
        simp only [Option.bind_some] at hf
        cases z : xs[k]? with
        | none => rw [z] at hf; cases hf
        | some d' =>
          rw [z] at hf; cases hf
          obtain ⟨w, rfl, rw1⟩ := repA1 r2
          cases rw1.flat_int
          obtain ⟨v, g1, g2⟩ := r1.get z
          obtain ⟨k1, k2, k3, k4⟩ := ixN_seq z0
          exact ⟨p, vs, _, k, v, rfl, rfl, h1, hz.1, hz.2, by rw [r1.length]; exact k1, g1, q _ _ g2 (RepA.erase k r1)⟩
    · cases hf
  · cases hf
def fReverse : List D → List D → Option (List D × D)
  | xs, [] => some (xs.reverse, .non)
  | _, _ => none
theorem ownm_reverse {ca : Str → Addr} : OwnM K ca rReverse fReverse := by
  intro H0 H p vs xs ws ds ys d Q h1 e r1 r2 hf q
  unfold fReverse at hf
  split at hf
  · cases hf
    cases r2
    exact ⟨p, vs, rfl, rfl, h1, q _ _ .non r1.reverse⟩
  · cases hf
end
end Mir
set_option Elab.async false
set_option linter.all false
set_option maxRecDepth 100000
set_option maxHeartbeats 4000000
/-! Mirror layer, part G: own lists looked at; loops. -/
namespace Mir
open PySem PySem.Spec L2
variable {ρ : Type} [Rsc ρ]

/-! ### a look at a list of one's own: the answer is flat -/
def flatD : D → Bool
  | .non => true
  | .bl _ => true
  | .int _ => true
  | .str _ => true
  | _ => false
def peekS (i j : Nat) (s : SV ρ) : SV ρ := match s with
  | .dat d => .dat d
  | .lst xs => if j = i then .dat (.lst xs) else .no
  | _ => .no
def peekEnv (i : Nat) (env : Env ρ) : Env ρ := env.mapIdx fun j s => peekS i j s
def mPeek (i : Nat) (m : ME ρ) : ME ρ := fun env => match env[i]? with
  | some (.lst _) => (match m (peekEnv i env) with
    | .ok (.dat d) _ => if flatD d = true then .ok (.dat d) env else .bad
    | _ => .bad)
  | _ => .bad
section
variable {K : PySem.W.Frag} {c : Cm} {X : Cx} {e a b : Expr} {ma mb : ME ρ} {pos : Pos} {ca : Str → Addr} {ps : List Nat} {Γ : Gam} {H0 H : Hp} {σ : St} {env : Env ρ} {i : Nat} {xs : List D}
theorem Rep.flat {H' : Hp} {v : V} {d : D} (h : flatD d = true) (r : Rep K ca H v d) : Rep K ca H' v d := by
  cases r with
  | non => exact .non
  | bl b => exact .bl b
  | int b => exact .int b
  | str b => exact .str b
  | tup _ _ => cases h
  | lst _ _ => cases h
  | scr _ => cases h
  | dct0 _ => cases h
  | ins _ _ => cases h
theorem peek_start (E : EnvOk K ca ps Γ H0 H σ env) (h : env[i]? = some (.lst xs)) : ∃ Γ1 H01, EnvOk K ca ps Γ1 H01 H σ (peekEnv i env) ∧
    ∀ H0' H' (env' : Env ρ), Ex H01 H0' → EnvOk K ca ps Γ1 H0' H' σ env' → EnvOk K ca ps Γ H0 H' σ env := by
  obtain ⟨F, E⟩ := E
  obtain ⟨p, vs, e0, hp, r, g⟩ := E.slot i _ h
  have hl : i < env.length := (List.getElem?_eq_some_iff.mp h).1
  obtain ⟨_, h0, h1, h2⟩ := E.fp i p ((g p).mpr rfl)
  have ex : Ex H0 (upd H0 p (.lst vs)) := ex_of_upd h0
  refine ⟨⟨H, upd H0 p (.lst vs), fun _ => False, Γ.pins⟩, upd H0 p (.lst vs), ⟨fun _ _ => False, by unfold peekEnv; rw [List.length_mapIdx]; exact E.len, fun a u e => ?_, Evl.Ex.refl _, fun a q _ _ => q, fun a o q _ => q, fun a q => q, E.pin, fun j t e => ?_, fun _ _ _ f => f.elim, fun _ _ f => f.elim⟩, fun H0' H' env' e1 E1 => ?_⟩
  · by_cases ha : a = p
    · subst ha; rw [upd_same] at e; rw [hp]; exact e
    · rw [upd_ne ha] at e; exact E.sub a u e
  · unfold peekEnv at e
    rw [List.getElem?_mapIdx] at e
    cases z : env[j]? with
    | none => rw [z] at e; cases e
    | some s =>
      rw [z] at e
      have e' : peekS i j s = t := Option.some.inj e
      subst e'
      have q := E.slot j s z
      cases s with
      | no => exact fun a f => f
      | dat d =>
        obtain ⟨⟨v, k1, k2⟩, _⟩ := q
        exact ⟨⟨v, k1, k2.mono ex⟩, fun a f => f⟩
      | lst ys =>
        show SlotOk K ca _ H _ (if j = i then SV.dat (.lst ys) else .no) _
        by_cases hj : j = i
        · subst hj
          rw [if_pos rfl]
          rw [h] at z
          cases z
          exact ⟨⟨_, e0, .lst upd_same (r.mono ex)⟩, fun a f => f⟩
        · rw [if_neg hj]
          exact fun a f => f
      | res r => exact fun a f => f
  · obtain ⟨F1, E1⟩ := E1
    have fr : Ex H H' := fun a o q => E1.frame a o q (fun z => z)
    refine ⟨F, E.len, fun a u q => fr _ _ (E.sub a u q), E.base, E.absorb, fun a o g1 g2 => fr _ _ (E.frame a o g1 g2), fun a q => E.alive a (E1.alive a q), E.pin, fun j s q => (E.slot j s q).mono (Evl.Ex.refl _) fun a f => ?_, E.dis, fun j a f => ?_⟩
    · obtain ⟨_, _, k, _⟩ := E.fp j a f
      cases z : H a with
      | none => exact absurd z k
      | some o => exact fr a o z
    · obtain ⟨k0, k1, k2, k3⟩ := E.fp j a f
      refine ⟨k0, k1, fun z => ?_, k3⟩
      cases z2 : H a with
      | none => exact k2 z2
      | some o => rw [fr a o z2] at z; cases z
theorem em_peek (i : Nat) (h : EM X c e ma) : EM X c e (mPeek i ma) := by
  obtain ⟨t, h1, h2⟩ := h
  refine ⟨t, h1, fun Γ H0 H σ env Q E w => ?_⟩
  unfold mPeek at w
  cases z : env[i]? with
  | none => rw [z] at w; exact w.elim
  | some s =>
    rw [z] at w
    cases s with
    | lst xs =>
      obtain ⟨Γ1, H01, E1, back⟩ := peek_start E z
      dsimp only at w
      cases z2 : ma (peekEnv i env) with
      | ok s1 env1 =>
        rw [z2] at w
        cases s1 with
        | dat d =>
          dsimp only at w
          by_cases hf : flatD d = true
          · rw [if_pos hf] at w
            refine h2 Γ1 H01 H σ (peekEnv i env) Q E1 ?_
            rw [z2]
            intro H0' H' e1 v R
            exact w H0 H' (Evl.Ex.refl _) v ((back H0' H' env1 e1 R.toEnv).dat (Rep.flat hf R.rep))
          · rw [if_neg hf] at w; exact w.elim
        | _ => exact w.elim
      | exc x env1 => rw [z2] at w; exact w.elim
      | bad => rw [z2] at w; exact w.elim
    | _ => exact w.elim
/-- an item, a slice, a copy of a list of one's own -/
def mIxOwn (i : Nat) (b : ME ρ) : ME ρ := fun env => match env[i]? with
  | some (.lst _) => (toD b env).bind fun d env => (match env[i]?, d with
    | some (.lst xs), .int j => (match atI xs j with
      | some d => .ok (.dat d) env
      | none => .bad)
    | _, _ => .bad)
  | _ => .bad
theorem em_ixOwn {x : Str} {px : Pos} (hb : EM X c b mb) (hN : X.N[i]? = some x := by rfl) (hv : Vis X.env.scope x := by first | exact Or.inl rfl | exact Or.inr (Or.inl rfl) | exact Or.inr (Or.inr rfl)) (hd : (x == ("__debug__" : Str)) = false := by decide)
    (hcd : (x == ("__classdict__" : Str)) = false := by decide) (hs : PlainIx b := by exact fun _ _ => rfl) : EM X c (.Subscript (.Name x px) b pos) (mIxOwn i mb) := by
  obtain ⟨t, h1, h2⟩ := hb
  refine ⟨_, pe_ix ix_list (pe_var (i := i) hN hv hd hcd) h1 hs, fun Γ H0 H σ env Q E w => ?_⟩
  unfold mIxOwn at w
  cases z : env[i]? with
  | none => rw [z] at w; exact w.elim
  | some s =>
    rw [z] at w
    cases s with
    | lst xs =>
      obtain ⟨p, vs, k1, k2, k3, k4⟩ := E.own z
      refine ⟨_, k1, ?_⟩
      refine h2.toD Γ H0 H σ env _ E ((Wp.bind w).imp fun d env1 H1 H1' e1 q y E1 r1 => ?_)
      cases z2 : env1[i]? with
      | none => rw [z2] at q; exact q.elim
      | some s2 =>
        rw [z2] at q
        cases s2 with
        | lst ys =>
          cases d with
          | int j =>
            dsimp only at q
            cases z3 : atI ys j with
            | none => rw [z3] at q; exact q.elim
            | some d =>
              rw [z3] at q
              obtain ⟨p', vs', l1, l2, l3, l4⟩ := E1.own z2
              rw [k1] at l1
              cases l1
              obtain ⟨v, g1, g2⟩ := l3.atI z3
              cases r1.flat_int
              exact ⟨p, vs', j, v, rfl, rfl, SqL.of l2, g1, q H1 H1' (Evl.Ex.refl _) v (E1.dat g2)⟩
          | _ => exact q.elim
        | _ => exact q.elim
    | _ => exact w.elim
def mSlOwn (i : Nat) (lo hi : Env ρ → Rs ρ (Option Int)) : ME ρ := fun env => match env[i]? with
  | some (.lst _) => (lo env).bind fun l env => (hi env).bind fun u env => (match env[i]? with
    | some (.lst xs) => .ok (.lst (cutD xs l u)) env
    | _ => .bad)
  | _ => .bad
theorem em_slOwn {x : Str} {px p2 : Pos} {lo hi : Option Expr} {ml mh : Env ρ → Rs ρ (Option Int)} (hl : OM X c lo ml) (hh : OM X c hi mh) (hN : X.N[i]? = some x := by rfl) (hv : Vis X.env.scope x := by first | exact Or.inl rfl | exact Or.inr (Or.inl rfl) | exact Or.inr (Or.inr rfl)) (hd : (x == ("__debug__" : Str)) = false := by decide)
    (hcd : (x == ("__classdict__" : Str)) = false := by decide) : EM X c (.Subscript (.Name x px) (.Slice lo hi none p2) pos) (mSlOwn i ml mh) := by
  obtain ⟨tl, l1, l2⟩ := hl
  obtain ⟨th, u1, u2⟩ := hh
  refine ⟨_, pe_slice sl_list (pe_var (i := i) hN hv hd hcd) l1 u1, fun Γ H0 H σ env Q E w => ?_⟩
  unfold mSlOwn at w
  cases z : env[i]? with
  | none => rw [z] at w; exact w.elim
  | some s =>
    rw [z] at w
    cases s with
    | lst xs =>
      obtain ⟨p, vs, k1, k2, k3, k4⟩ := E.own z
      refine ⟨_, k1, ?_⟩
      refine l2 Γ H0 H σ env _ E ((Wp.bind w).imp fun l env2 H2 H2' e2 q2 E2 => ?_)
      refine u2 Γ H2 H2' σ env2 _ E2 ((Wp.bind q2).imp fun u env3 H3 H3' e3 q3 E3 => ?_)
      cases z2 : env3[i]? with
      | none => rw [z2] at q3; exact q3.elim
      | some s2 =>
        rw [z2] at q3
        cases s2 with
        | lst ys =>
          obtain ⟨p', vs', l1, l2, l3, l4⟩ := E3.own z2
          rw [k1] at l1
          cases l1
          exact ⟨p, vs', rfl, SqL.of l2, fun q hq => q3 H3 _ (Evl.Ex.refl _) _ (E3.fresh hq (l3.cut l u))⟩
        | _ => exact q3.elim
    | _ => exact w.elim
/-- list(x), tuple(x) of a list of one's own -/
def mListOwn (i : Nat) : ME ρ := fun env => match env[i]? with
  | some (.lst xs) => .ok (.lst xs) env
  | _ => .bad
def mTupOwn (i : Nat) : ME ρ := fun env => match env[i]? with
  | some (.lst xs) => .ok (.dat (.tup xs)) env
  | _ => .bad
theorem em_listOwn {x : Str} {px p : Pos} (hm : X.mg "list" = none) (hN : X.N[i]? = some x := by rfl) (hv : Vis X.env.scope x := by first | exact Or.inl rfl | exact Or.inr (Or.inl rfl) | exact Or.inr (Or.inr rfl)) (hd : (x == ("__debug__" : Str)) = false := by decide)
    (hcd : (x == ("__classdict__" : Str)) = false := by decide) (hg : Gl X "list" := by rfl) (he : starEach [.Name x px] X.env = (false, eval (.Name x px) X.env) :: starEach [] X.env := by rfl) (hpl : (backTo pos (starEach [] X.env)).any (·.1) = false := by rfl) :
    EM X c (.Call (.Name "list" p) [.Name x px] [] pos) (mListOwn (ρ := ρ) i) := by
  refine ⟨_, pe_callTy call_list_of hg hm (by decide +kernel) (pa_cons (pe_var (i := i) hN hv hd hcd) pa_nil he) (he := he) (hpl := hpl), fun Γ H0 H σ env Q E w => ?_⟩
  unfold mListOwn at w
  cases z : env[i]? with
  | none => rw [z] at w; exact w.elim
  | some s =>
    rw [z] at w
    cases s with
    | lst xs =>
      obtain ⟨p, vs, k1, k2, k3, k4⟩ := E.own z
      exact ⟨_, k1, p, vs, rfl, .inl (SqL.of k2), fun l hl => w H0 _ (Evl.Ex.refl _) _ (E.fresh hl k3)⟩
    | _ => exact w.elim
theorem em_tupOwn {x : Str} {px p : Pos} (hm : X.mg "tuple" = none) (hN : X.N[i]? = some x := by rfl) (hv : Vis X.env.scope x := by first | exact Or.inl rfl | exact Or.inr (Or.inl rfl) | exact Or.inr (Or.inr rfl)) (hd : (x == ("__debug__" : Str)) = false := by decide)
    (hcd : (x == ("__classdict__" : Str)) = false := by decide) (hg : Gl X "tuple" := by rfl) (he : starEach [.Name x px] X.env = (false, eval (.Name x px) X.env) :: starEach [] X.env := by rfl) (hpl : (backTo pos (starEach [] X.env)).any (·.1) = false := by rfl) :
    EM X c (.Call (.Name "tuple" p) [.Name x px] [] pos) (mTupOwn (ρ := ρ) i) := by
  refine ⟨_, pe_callTy call_tuple_of hg hm (by decide +kernel) (pa_cons (pe_var (i := i) hN hv hd hcd) pa_nil he) (he := he) (hpl := hpl), fun Γ H0 H σ env Q E w => ?_⟩
  unfold mTupOwn at w
  cases z : env[i]? with
  | none => rw [z] at w; exact w.elim
  | some s =>
    rw [z] at w
    cases s with
    | lst xs =>
      obtain ⟨p, vs, k1, k2, k3, k4⟩ := E.own z
      refine ⟨_, k1, p, vs, rfl, .inl ⟨SqL.of k2, fun l hl => ?_⟩⟩
      obtain ⟨H1, e1, R⟩ := E.newTup hl k3
      exact w H1 _ e1 _ R
    | _ => exact w.elim
/-- x[j] = v, x a list of one's own -/
def tgIx (i : Nat) (b : ME ρ) : D → Env ρ → Rs ρ Unit := fun d env => match env[i]? with
  | some (.lst _) => (toD b env).bind fun j env => (match env[i]?, j with
    | some (.lst xs), .int j => (match ixN xs.length j with
      | some k => .ok () (env.set i (.lst (xs.set k d)))
      | none => .bad)
    | _, _ => .bad)
  | _ => .bad
theorem gm_ix {x : Str} {px : Pos} (hb : EM X c b mb) (hN : X.N[i]? = some x := by rfl) (hv : Vis X.env.scope x := by first | exact Or.inl rfl | exact Or.inr (Or.inl rfl) | exact Or.inr (Or.inr rfl)) (hd : (x == ("__debug__" : Str)) = false := by decide)
    (hcd : (x == ("__classdict__" : Str)) = false := by decide)
    (ha : ∀ v, assign (.Subscript (.Name x px) b pos) X.env v = (do
      let ov ← holding [v] (eval (.Name x px) X.env)
      let iv ← holding [v, ov] (eval b X.env)
      standAt pos
      holding [v, ov, iv] (setItem ov iv v)
      release [v, ov, iv] []) := by intro _; rfl) : GM X c (.Subscript (.Name x px) b pos) (tgIx i mb) [] := by
  obtain ⟨t, h1, h2⟩ := hb
  refine ⟨_, pg_sub (pe_var (i := i) hN hv hd hcd) h1 set_list ha, fun Γ H0 H σ env x d Q E r w => ?_⟩
  unfold tgIx at w
  cases z : env[i]? with
  | none => rw [z] at w; exact w.elim
  | some s =>
    rw [z] at w
    cases s with
    | lst xs =>
      obtain ⟨p, vs, k1, k2, k3, k4⟩ := E.own z
      refine ⟨_, k1, ?_⟩
      refine h2.toD Γ H0 H σ env _ E ((Wp.bind w).imp fun j env1 H1 H1' e1 q y E1 r1 => ?_)
      cases z2 : env1[i]? with
      | none => rw [z2] at q; exact q.elim
      | some s2 =>
        rw [z2] at q
        cases s2 with
        | lst ys =>
          cases j with
          | int j =>
            dsimp only at q
            cases z3 : ixN ys.length j with
            | none => rw [z3] at q; exact q.elim
            | some k =>
              rw [z3] at q
              obtain ⟨p', vs', l1, l2, l3, l4⟩ := E1.own z2
              rw [k1] at l1
              cases l1
              cases r1.flat_int
              exact ⟨p, vs', j, k, rfl, rfl, l2, by rw [l3.length]; exact z3, q H1 _ (Evl.Ex.refl _) σ (E1.mutate z2 k1 (RepA.set (r.mono e1) k l3)) ⟨rfl, fun _ _ => rfl⟩⟩
          | _ => exact q.elim
        | _ => exact q.elim
    | _ => exact w.elim
end
end Mir
set_option Elab.async false
set_option linter.all false
set_option maxRecDepth 100000
set_option maxHeartbeats 4000000
/-! Mirror layer, part H: what loops walk; for, while; comprehensions. -/
namespace Mir
open PySem PySem.Spec L2
variable {ρ : Type} [Rsc ρ]

structure WalkD (ρ : Type) [Rsc ρ] (K : PySem.W.Frag) (ca : Str → Addr) (J : It) (H0 : Hp) (xs : List D) : Prop where
  goes : ∀ H0' H i, Ex H0 H0' → Ex H0' H → i < xs.length → J.go i H
  stops : ∀ H0' H, Ex H0 H0' → Ex H0' H → J.stop xs.length H
  yields : ∀ Γ ps H0' H σ (env : Env ρ) F i d x H', Ex H0 H0' → EnvF K ca ps Γ H0' H σ env F → xs[i]? = some d → J.yld i H x H' →
    ∃ H0'', Ex H0' H0'' ∧ EnvF K ca ps Γ H0'' H' σ env F ∧ Rep K ca H0'' x d ∧ Ex H H' ∧ ∀ a, H0' a = none → H a ≠ none → H0'' a = none
def IM (X : Cx) (c : Cm) (tg iter : Expr) (src : MA ρ) : Prop := ∃ wi, PI X tg iter wi ∧ ∀ Γ H0 H σ env (R : It → Hp → Prop), EnvOk X.K c.ca c.ps Γ H0 H σ env →
  Wp X.K c Γ H0 (fun xs env H0' H' => ∀ J, EnvOk X.K c.ca c.ps Γ H0' H' σ env → WalkD ρ X.K c.ca J H0' xs → R J H') (src env) → wi σ H R

section
variable {K : PySem.W.Frag} {c : Cm} {X : Cx} {e a b tg : Expr} {ma mb : ME ρ} {pos : Pos} {ca : Str → Addr} {H0 H : Hp}
theorem walkd_list {p : Addr} {vs : List V} {xs : List D} (h : H0 p = some (.lst vs)) (r : RepA K ca H0 vs xs) : WalkD ρ K ca (Itl K p) H0 xs where
  goes := fun H0' H i e1 e2 hi => by
    obtain ⟨v, h1, _⟩ := r.get (List.getElem?_eq_getElem hi)
    exact ⟨vs, v, SqL.of (e2 _ _ (e1 _ _ h)), h1⟩
  stops := fun H0' H e1 e2 => ⟨vs, SqL.of (e2 _ _ (e1 _ _ h)), by rw [r.length]; exact Nat.le_refl _⟩
  yields := fun Γ ps H0' H σ env F i d x H' e1 E hd hy => by
    obtain ⟨rfl, hy⟩ := hy
    obtain ⟨v, h1, h2⟩ := r.get hd
    have := hy vs (SqL.of (E.sub _ _ (e1 _ _ h)))
    rw [h1] at this
    cases this
    exact ⟨H0', Evl.Ex.refl _, E, h2.mono e1, Evl.Ex.refl _, fun _ q _ => q⟩
theorem walkd_scr {p : Addr} {ns : List Int} (h : SqL K H0 p (ns.map V.int)) : WalkD ρ K ca (Itl K p) H0 (ns.map D.int) where
  goes := fun H0' H i e1 e2 hi => by
    rw [List.length_map] at hi
    exact ⟨_, .int ns[i], Evl.ex_l e2 (Evl.ex_l e1 h), by rw [List.getElem?_map, List.getElem?_eq_getElem hi]; rfl⟩
  stops := fun H0' H e1 e2 => ⟨_, Evl.ex_l e2 (Evl.ex_l e1 h), by rw [List.length_map, List.length_map]; exact Nat.le_refl _⟩
  yields := fun Γ ps H0' H σ env F i d x H' e1 E hd hy => by
    obtain ⟨rfl, hy⟩ := hy
    have := hy _ (Evl.ex_l E.sub (Evl.ex_l e1 h))
    rw [List.getElem?_map] at this hd
    cases z : ns[i]? with
    | none => rw [z] at hd; cases hd
    | some n =>
      rw [z] at this hd
      cases this
      cases hd
      exact ⟨H0', Evl.Ex.refl _, E, .int n, Evl.Ex.refl _, fun _ q _ => q⟩
theorem walkd_tup {p : Addr} {vs : List V} {xs : List D} (h : SqT K H0 p vs) (r : RepA K ca H0 vs xs) : WalkD ρ K ca (Itt K p) H0 xs where
  goes := fun H0' H i e1 e2 hi => by
    obtain ⟨v, h1, _⟩ := r.get (List.getElem?_eq_getElem hi)
    exact ⟨vs, v, Evl.ex_t e2 (Evl.ex_t e1 h), h1⟩
  stops := fun H0' H e1 e2 => ⟨vs, Evl.ex_t e2 (Evl.ex_t e1 h), by rw [r.length]; exact Nat.le_refl _⟩
  yields := fun Γ ps H0' H σ env F i d x H' e1 E hd hy => by
    obtain ⟨rfl, hy⟩ := hy
    obtain ⟨v, h1, h2⟩ := r.get hd
    have := hy vs (Evl.ex_t E.sub (Evl.ex_t e1 h))
    rw [h1] at this
    cases this
    exact ⟨H0', Evl.Ex.refl _, E, h2.mono e1, Evl.Ex.refl _, fun _ q _ => q⟩
def rangeD (lo : Int) (n : Nat) : List D := (List.range n).map fun (i : Nat) => D.int (lo + (i : Int))
theorem walkd_range {lo : Int} {n : Nat} : WalkD ρ K ca (Itr lo n) H0 (rangeD lo n) where
  goes := fun H0' H i e1 e2 hi => by unfold rangeD at hi; rw [List.length_map, List.length_range] at hi; exact hi
  stops := fun H0' H e1 e2 => by unfold rangeD; rw [List.length_map, List.length_range]; exact Nat.le_refl _
  yields := fun Γ ps H0' H σ env F i d x H' e1 E hd hy => by
    obtain ⟨rfl, rfl⟩ := hy
    unfold rangeD at hd
    rw [List.getElem?_map] at hd
    cases z : (List.range n)[i]? with
    | none => rw [z] at hd; cases hd
    | some m =>
      rw [z] at hd
      cases hd
      have : m = i := by rw [List.getElem?_eq_some_iff] at z; obtain ⟨h, z⟩ := z; rw [← z]; simp
      subst this
      exact ⟨H0', Evl.Ex.refl _, E, .int _, Evl.Ex.refl _, fun _ q _ => q⟩
/-- an iteration over a list, a tuple -/
def sItems : D → Option (List D)
  | .lst xs => some xs
  | .tup xs => some xs
  | .scr ns => some (ns.map .int)
  | _ => none
def srcLst (m : ME ρ) : MA ρ := fun env => (toD m env).bind fun d env => match d with
  | .lst xs => .ok xs env
  | .scr ns => .ok (ns.map .int) env
  | _ => .bad
def srcTup (m : ME ρ) : MA ρ := fun env => (toD m env).bind fun d env => match d with
  | .tup xs => .ok xs env
  | _ => .bad
theorem im_list (h : EM X c e ma) : IM X c tg e (srcLst ma) := by
  obtain ⟨t, h1, h2⟩ := h
  refine ⟨_, pi_list h1, fun Γ H0 H σ env R E w => ?_⟩
  refine h2.toD Γ H0 H σ env _ E ((Wp.bind w).imp fun d env1 H1 H1' e1 q x E1 r => ?_)
  cases d with
  | lst xs =>
    obtain ⟨a, vs, rfl, g1, g2⟩ := r.of_lst
    exact ⟨a, rfl, ⟨vs, SqL.of (E1.sub _ _ g1)⟩, q H1 H1' (Evl.Ex.refl _) _ E1 (walkd_list g1 g2)⟩
  | scr ns =>
    obtain ⟨a, rfl, g1⟩ := r.of_scr
    exact ⟨a, rfl, ⟨_, Evl.ex_l E1.sub g1⟩, q H1 H1' (Evl.Ex.refl _) _ E1 (walkd_scr g1)⟩
  | _ => exact q.elim
theorem im_tup (h : EM X c e ma) : IM X c tg e (srcTup ma) := by
  obtain ⟨t, h1, h2⟩ := h
  refine ⟨_, pi_tup h1, fun Γ H0 H σ env R E w => ?_⟩
  refine h2.toD Γ H0 H σ env _ E ((Wp.bind w).imp fun d env1 H1 H1' e1 q x E1 r => ?_)
  cases d with
  | tup xs =>
    obtain ⟨a, vs, rfl, g1, g2⟩ := r.of_tup
    exact ⟨a, rfl, ⟨vs, SqT.up E1 g1⟩, q H1 H1' (Evl.Ex.refl _) _ E1 (walkd_tup g1 g2)⟩
  | _ => exact q.elim
def small62 (i : Int) : Bool := decide (i.natAbs < 2 ^ 62)
def srcRng1 (m : ME ρ) : MA ρ := fun env => (toD m env).bind fun d env => match d with
  | .int j => if small62 j = true then .ok (rangeD 0 j.toNat) env else .bad
  | _ => .bad
def srcRng2 (m n : ME ρ) : MA ρ := fun env => (toD m env).bind fun d env => (toD n env).bind fun d2 env => match d, d2 with
  | .int i, .int j => if (small62 i && small62 j) = true then .ok (rangeD i (j - i).toNat) env else .bad
  | _, _ => .bad
theorem small62_mp {i : Int} (h : small62 i = true) : -(2 ^ 62) ≤ i ∧ i < 2 ^ 62 := by
  have h' : i.natAbs < 2 ^ 62 := of_decide_eq_true h
  omega
theorem small62_of {i : Int} (h : i.natAbs < 2 ^ 62) : small62 i = true := decide_eq_true h
theorem im_range1 {p : Pos} (hm : X.mg "range" = none) (h : EM X c a ma) (hg : Gl X "range" := by rfl) (hs : starEach [a] X.env = [(false, eval a X.env)] := by rfl) : IM X c tg (.Call (.Name "range" p) [a] [] pos) (srcRng1 ma) := by
  obtain ⟨t, h1, h2⟩ := h
  refine ⟨_, pi_range1 hg hm (pa_cons h1 pa_nil hs) hs, fun Γ H0 H σ env R E w => ?_⟩
  refine h2.toD Γ H0 H σ env _ E ((Wp.bind w).imp fun d env1 H1 H1' e1 q x E1 r => ?_)
  cases d with
  | int j =>
    cases r.flat_int
    dsimp only at q
    by_cases z : small62 j = true
    · rw [if_pos z] at q
      obtain ⟨z1, z2⟩ := small62_mp z
      exact ⟨j, rfl, z1, z2, q H1 H1' (Evl.Ex.refl _) _ E1 walkd_range⟩
    · rw [if_neg z] at q; exact q.elim
  | _ => exact q.elim
theorem im_range2 {p : Pos} (hm : X.mg "range" = none) (h : EM X c a ma) (g : EM X c b mb) (hg : Gl X "range" := by rfl) (hs : starEach [a, b] X.env = [(false, eval a X.env), (false, eval b X.env)] := by rfl) (hs2 : starEach [b] X.env = [(false, eval b X.env)] := by rfl) : IM X c tg (.Call (.Name "range" p) [a, b] [] pos) (srcRng2 ma mb) := by
  obtain ⟨t, h1, h2⟩ := h
  obtain ⟨u, g1, g2⟩ := g
  refine ⟨_, pi_range2 hg hm (pa_cons h1 (pa_cons g1 pa_nil hs2) (by rw [hs, hs2])) hs hs2, fun Γ H0 H σ env R E w => ?_⟩
  refine h2.toD Γ H0 H σ env _ E ((Wp.bind w).imp fun d env1 H1 H1' e1 q x E1 r => ?_)
  refine g2.toD Γ H1 H1' σ env1 _ E1 ((Wp.bind q).imp fun d2 env2 H2 H2' e2 q2 y E2 r2 => ?_)
  cases d with
  | int i =>
    cases d2 with
    | int j =>
      cases r.flat_int; cases r2.flat_int
      dsimp only at q2
      by_cases z : (small62 i && small62 j) = true
      · rw [if_pos z] at q2
        obtain ⟨z1, z2⟩ := (Bool.and_eq_true _ _).mp z
        have y1 := small62_mp z1
        have y2 := small62_mp z2
        exact ⟨i, j, rfl, ⟨y1.1, y1.2, y2.1, y2.2⟩, q2 H2 H2' (Evl.Ex.refl _) _ E2 walkd_range⟩
      · rw [if_neg z] at q2; exact q2.elim
    | _ => exact q2.elim
  | _ => cases d2 <;> exact q2.elim

/-! ### for -/
def forL (g : D → Env ρ → Rs ρ Unit) (m : MS ρ) : List D → MS ρ
  | [] => fun env => .nx env
  | x :: r => fun env => (g x env).thenS fun _ env => match m env with
    | .nx env => forL g m r env
    | .ct env => forL g m r env
    | .bk env => .nx env
    | r => r
def sFor (src : MA ρ) (g : D → Env ρ → Rs ρ Unit) (m : MS ρ) : MS ρ := fun env => (src env).thenS fun xs env => forL g m xs env
theorem sm_for {iter : Expr} {body : List Stmt} {src : MA ρ} {g : D → Env ρ → Rs ρ Unit} {ss : List Nat} {m : MS ρ} (hp : PassesOwn (model X.prog X.w) X.A X.env X.xe) (hc : X.calm = true) (hi : IM X c tg iter src) (hg : GM X c tg g ss) (hb : BM X c body m)
    (hs : ∀ x, foldedSetIterable iter X.env x = pure x := by intro _; rfl) : SM X c (.For tg iter body [] pos) (sFor src g m) := by
  obtain ⟨wi, i1, i2⟩ := hi
  obtain ⟨tgt, g1, g2⟩ := hg
  obtain ⟨tb, b1, b2⟩ := hb
  refine ⟨_, ps_for hp hc i1 g1 b1 hs, fun Γ H0 H σ env D E w => ?_⟩
  refine i2 Γ H0 H σ env _ E ((Wp.ofS w).imp fun xs env1 H1 H1' e1 q J E1 W => ?_)
  refine ⟨fun i n σ' H' => n = xs.length - i ∧ i ≤ xs.length ∧ ∃ H0' env', Ex H1 H0' ∧ EnvOk X.K c.ca c.ps Γ H0' H' σ' env' ∧ WpS X.K c Γ H0' D (forL g m (xs.drop i) env'), ⟨xs.length, by omega, Nat.zero_le _, H1, env1, Evl.Ex.refl _, E1, q⟩, fun i n σ2 H2 hw => ?_⟩
  obtain ⟨rfl, hi, H02, env2, e2, E2, w2⟩ := hw
  by_cases hlt : i < xs.length
  · refine .inr ⟨W.goes H02 H2 i e2 E2.sub hlt, fun σ3 H3 => ∃ H0' env', Ex H1 H0' ∧ EnvOk X.K c.ca c.ps Γ H0' H3 σ3 env' ∧ WpS X.K c Γ H0' D (forL g m (xs.drop (i + 1)) env'), fun σ3 H3 l4 => ⟨xs.length - (i + 1), by omega, rfl, hlt, l4⟩, fun x H3 y => ?_⟩
    obtain ⟨F, E2⟩ := E2
    obtain ⟨H03, e3, E3, r3, _, _⟩ := W.yields Γ c.ps H02 H2 σ2 env2 F i xs[i] x H3 e2 E2 (List.getElem?_eq_getElem hlt) y
    rw [List.drop_eq_getElem_cons hlt] at w2
    have e13 : Ex H1 H03 := e2.trans e3
    refine g2 Γ H03 H3 σ2 env2 x _ _ ⟨F, E3⟩ r3 ((Wp.ofS (WpS.mono e3 w2)).imp fun _ env4 H04 H4 e4 q4 σ4 E4 _ => ?_)
    refine b2 Γ H04 H4 σ4 env4 _ E4 ?_
    cases z : m env4 with
    | nx env5 => rw [z] at q4; exact fun σ5 H05 H5 e5 E5 => ⟨H05, env5, (e13.trans e4).trans e5, E5, WpS.mono e5 q4⟩
    | ct env5 => rw [z] at q4; exact fun σ5 H05 H5 e5 E5 => ⟨H05, env5, (e13.trans e4).trans e5, E5, WpS.mono e5 q4⟩
    | bk env5 => rw [z] at q4; exact q4
    | rt s env5 => rw [z] at q4; exact q4
    | exc x env5 => rw [z] at q4; exact q4
    | bad => rw [z] at q4; exact q4
  · have e : i = xs.length := by omega
    subst e
    refine .inl ⟨W.stops H02 H2 e2 E2.sub, ?_⟩
    rw [List.drop_length] at w2
    exact w2 σ2 H02 H2 (Evl.Ex.refl _) E2
/-! ### while, with fuel -/
def whileN (t : MT ρ) (m : MS ρ) : Nat → MS ρ
  | 0 => fun _ => .bad
  | n + 1 => fun env => (t env).thenS fun b env => if b = true then (match m env with
    | .nx env => whileN t m n env
    | .ct env => whileN t m n env
    | .bk env => .nx env
    | r => r) else .nx env
theorem sm_while {body : List Stmt} {t : MT ρ} {m : MS ρ} (n : Nat) (hp : PassesOwn (model X.prog X.w) X.A X.env X.xe) (ht : TM X c e t) (hb : BM X c body m) : SM X c (.While e body [] pos) (whileN t m n) := by
  obtain ⟨tc, t1, t2⟩ := ht
  obtain ⟨tb, b1, b2⟩ := hb
  refine ⟨_, ps_while hp t1 b1, fun Γ H0 H σ env D E w => ?_⟩
  refine ⟨fun k σ' H' => ∃ H0' env', EnvOk X.K c.ca c.ps Γ H0' H' σ' env' ∧ WpS X.K c Γ H0' D (whileN t m k env'), ⟨n, H0, env, E, w⟩, fun k σ2 H2 hw => ?_⟩
  obtain ⟨H02, env2, E2, w2⟩ := hw
  cases k with
  | zero => exact w2.elim
  | succ k =>
    refine t2 Γ H02 H2 σ2 env2 _ E2 ((Wp.ofS w2).imp fun b env3 H03 H3 e3 q3 E3 => ?_)
    cases b with
    | true =>
      rw [if_pos rfl]
      rw [if_pos rfl] at q3
      refine ⟨fun σ4 H4 => ∃ H0' env', EnvOk X.K c.ca c.ps Γ H0' H4 σ4 env' ∧ WpS X.K c Γ H0' D (whileN t m k env'), fun σ4 H4 h4 => ⟨k, Nat.lt_succ_self k, h4⟩, ?_⟩
      refine b2 Γ H03 H3 σ2 env3 _ E3 ?_
      cases z : m env3 with
      | nx env5 => rw [z] at q3; exact fun σ5 H05 H5 e5 E5 => ⟨H05, env5, E5, WpS.mono e5 q3⟩
      | ct env5 => rw [z] at q3; exact fun σ5 H05 H5 e5 E5 => ⟨H05, env5, E5, WpS.mono e5 q3⟩
      | bk env5 => rw [z] at q3; exact q3
      | rt s env5 => rw [z] at q3; exact q3
      | exc x env5 => rw [z] at q3; exact q3
      | bad => rw [z] at q3; exact q3
    | false =>
      rw [if_neg Bool.false_ne_true]
      rw [if_neg Bool.false_ne_true] at q3
      exact q3 σ2 H03 H3 (Evl.Ex.refl _) E3
end
end Mir
set_option Elab.async false
set_option linter.all false
set_option maxRecDepth 100000
set_option maxHeartbeats 4000000
/-! Mirror layer, part I: comprehensions. -/
namespace Mir
open PySem PySem.Spec L2
variable {ρ : Type} [Rsc ρ]

/-! ### the readings of mirrors themselves -/
def tM (K : PySem.W.Frag) (c : Cm) (m : ME ρ) : TE := fun σ H Q => ∃ Γ H0 env, EnvOk K c.ca c.ps Γ H0 H σ env ∧ Wp K c Γ H0 (PostE K c Γ σ Q) (m env)
def tMT (K : PySem.W.Frag) (c : Cm) (m : MT ρ) : TT := fun σ H Q => ∃ Γ H0 env, EnvOk K c.ca c.ps Γ H0 H σ env ∧ Wp K c Γ H0 (PostT K c Γ σ Q) (m env)
def tMG (K : PySem.W.Frag) (c : Cm) (g : D → Env ρ → Rs ρ Unit) (ss : List Nat) : TG := fun x σ H Q => ∃ Γ H0 env d, EnvOk K c.ca c.ps Γ H0 H σ env ∧ Rep K c.ca H0 x d ∧
  Wp K c Γ H0 (fun _ env H0' H' => ∀ σ', EnvOk K c.ca c.ps Γ H0' H' σ' env → SameOut σ σ' ss → Q σ' H') (g d env)
section
variable {K : PySem.W.Frag} {c : Cm} {X : Cx} {e tg : Expr} {m : ME ρ} {p : MT ρ} {g : D → Env ρ → Rs ρ Unit} {ss : List Nat}
theorem EM.pe (h : EM X c e m) : PE X e (tM X.K c m) := by
  obtain ⟨t, h1, h2⟩ := h
  exact ⟨fun pins s σ H Q I ⟨Γ, H0, env, E, w⟩ => h1.run pins s σ H Q I (h2 Γ H0 H σ env Q E w)⟩
theorem TM.pt (h : TM X c e p) : PT X e (tMT X.K c p) := by
  obtain ⟨t, h1, h2⟩ := h
  exact ⟨fun pins s σ H Q I ⟨Γ, H0, env, E, w⟩ => h1.run pins s σ H Q I (h2 Γ H0 H σ env Q E w)⟩
theorem GM.pg (h : GM X c tg g ss) : PG X tg (tMG X.K c g ss) := by
  obtain ⟨t, h1, h2⟩ := h
  exact ⟨fun pins s σ H v u Q I r ⟨Γ, H0, env, d, E, rd, w⟩ => h1.run pins s σ H v u Q I r (h2 Γ H0 H σ env v d Q E rd w)⟩
end
/-- the ifs of a comprehension -/
def QM (X : Cx) (c : Cm) (ifs : List Expr) (m : MT ρ) : Prop := PTs X ifs (tMT X.K c m)
def mYes : MT ρ := fun env => .ok true env
theorem qm_nil {X : Cx} {c : Cm} : QM X c [] (mYes (ρ := ρ)) := ⟨fun pins s σ H Q I ⟨Γ, H0, env, E, w⟩ => pts_nil.run pins s σ H Q I (w H0 H (Evl.Ex.refl _) E)⟩
theorem qm_one {X : Cx} {c : Cm} {e : Expr} {m : MT ρ} (h : TM X c e m) : QM X c [e] m := pts_one h.pt

def compL (g : D → Env ρ → Rs ρ Unit) (tt : MT ρ) (me : ME ρ) (vs : List Nat) : List D → Env ρ → List D → Rs ρ (List D)
  | [], env, acc => .ok acc env
  | x :: r, env, acc => match g x env with
    | .ok _ env1 => (match tt env1 with
      | .ok b env2 => if b = true then (match toD me env2 with
          | .ok d env3 => if acc.length < sizeLine then compL g tt me vs r (gForget vs env3) (acc ++ [d]) else .bad
          | _ => .bad) else compL g tt me vs r (gForget vs env2) acc
      | _ => .bad)
    | _ => .bad
def restore (vs : List Nat) (env1 env2 : Env ρ) : Env ρ := vs.foldl (fun env i => env.set i (match env1[i]? with
  | some (.dat d) => .dat d
  | _ => .no)) env2
def mComp (src : MA ρ) (g : D → Env ρ → Rs ρ Unit) (tt : MT ρ) (me : ME ρ) (vs : List Nat) : ME ρ := fun env => (src env).bind fun xs env1 => match compL g tt me vs xs (gForget vs env1) [] with
  | .ok acc env2 => .ok (.lst acc) (restore vs env1 env2)
  | _ => .bad

section
variable {K : PySem.W.Frag} {c : Cm} {X : Cx} {ca : Str → Addr} {ps : List Nat} {Γ : Gam} {H0 H H0' H' : Hp} {σ σ' : St} {env env' : Env ρ} {F F' : Nat → Addr → Prop} {q : Addr} {o : HO}
/-- a turn's own start -/
def Gam.at_ (Γ : Gam) (H0 H : Hp) (F : Nat → Addr → Prop) : Gam := ⟨H, H0, fun a => ∃ i, F i a, Γ.pins⟩
theorem EnvF.rebase (E : EnvF K ca ps Γ H0 H σ env F) : EnvF K ca ps (Γ.at_ H0 H F) H0 H σ env F :=
  ⟨E.len, E.sub, Evl.Ex.refl _, fun _ h _ _ => h, fun _ _ h _ => h, fun _ h => h, E.pin, E.slot, E.dis, fun i a f => ⟨(E.fp i a f).1, (E.fp i a f).2.1, (E.fp i a f).2.2.1, .inr ⟨i, f⟩⟩⟩
theorem EnvF.unbase (E : EnvF K ca ps Γ H0 H σ env F) (E' : EnvF K ca ps (Γ.at_ H0 H F) H0' H' σ' env' F') : EnvF K ca ps Γ H0' H' σ' env' F' := by
  have nf : ∀ a, Γ.H a ≠ none → ¬ Γ.M a → ¬ ∃ i, F i a := fun a h1 h2 ⟨i, f⟩ => by
    rcases (E.fp i a f).2.2.2 with z | z
    · exact h1 z
    · exact h2 z
  refine ⟨E'.len, E'.sub, E.base.trans E'.base, fun a h1 h2 h3 => E'.absorb a (E.absorb a h1 h2 h3) (fun z => h2 (E.alive a z)) (nf a h2 h3), fun a o h1 h2 => E'.frame a o (E.frame a o h1 h2) (nf a (by rw [h1]; intro z; cases z) h2), fun a h => E.alive a (E'.alive a h), E'.pin, E'.slot, E'.dis, fun i a f => ?_⟩
  obtain ⟨k1, k2, k3, k4⟩ := E'.fp i a f
  refine ⟨k1, k2, k3, ?_⟩
  rcases k4 with z | ⟨j, z⟩
  · exact .inl (E.alive a z)
  · exact (E.fp j a z).2.2.2
/-- an object that is nobody's changes -/
theorem EnvF.other (E : EnvF K ca ps Γ H0 H σ env F) (h0 : H0 q = none) (hf : ∀ i, ¬ F i q) (hg : Γ.H q = none) : EnvF K ca ps Γ H0 (upd H q o) σ env F := by
  have np : ∀ i a, F i a → a ≠ q := fun i a f z => hf i (by rw [← z]; exact f)
  refine ⟨E.len, fun a u e => ?_, E.base, E.absorb, fun a u g1 g2 => ?_, fun a g => ?_, E.pin, fun i s e => (E.slot i s e).mono (Evl.Ex.refl _) fun a f => upd_ne (np i a f), E.dis, fun i a f => ?_⟩
  · have n : a ≠ q := fun z => by rw [z, h0] at e; cases e
    rw [upd_ne n]; exact E.sub a u e
  · have n : a ≠ q := fun z => by rw [z, hg] at g1; cases g1
    rw [upd_ne n]; exact E.frame a u g1 g2
  · have n : a ≠ q := fun z => by rw [z, upd_same] at g; cases g
    rw [upd_ne n] at g; exact E.alive a g
  · rw [upd_ne (np i a f)]
    exact E.fp i a f
theorem EnvF.forgetV (E : EnvF K ca ps Γ H0 H σ env F) {i : Nat} (hi : i ∉ ps) (o : Option V) : EnvF K ca ps Γ H0 H (σ.set i o) (env.set i .no) (fun j a => j ≠ i ∧ F j a) := by
  refine ⟨by rw [List.length_set, List.length_set]; exact E.len, E.sub, E.base, E.absorb, E.frame, E.alive, ⟨fun p hp => ?_, E.pin.2⟩, fun j t e => ?_, fun j k a f g => E.dis j k a f.2 g.2, fun j a f => by rw [List.length_set]; exact E.fp j a f.2⟩
  · have n : i ≠ p.1 := fun z => hi (by rw [← E.pin.2, z]; exact List.mem_map_of_mem hp)
    rw [List.getElem?_set_ne n]; exact E.pin.1 p hp
  · by_cases hj : j = i
    · subst hj
      have hl : j < env.length := by
        have := (List.getElem?_eq_some_iff.mp e).1
        rwa [List.length_set] at this
      rw [List.getElem?_set_self hl] at e
      have e' : SV.no = t := Option.some.inj e
      subst e'
      exact fun a f => f.1 rfl
    · rw [List.getElem?_set_ne (Ne.symm hj)] at e
      rw [join_set_ne (Ne.symm hj)]
      have q := E.slot j t e
      have z : (fun a => j ≠ i ∧ F j a) = F j := by funext a; simp [hj]
      show SlotOk K ca H0 H _ t (fun a => j ≠ i ∧ F j a)
      rw [z]; exact q
theorem wipe_comm (σ : St) (v : Nat) : ∀ vs : List Nat, wipe (σ.set v none) vs = (wipe σ vs).set v none
  | [] => rfl
  | w :: vs => by
    unfold wipe
    rw [wipe_comm σ v vs]
    by_cases h : v = w
    · subst h; rfl
    · rw [List.set_comm _ _ h]
theorem EnvF.wipe : ∀ (vs : List Nat) {σ : St} {env : Env ρ} {F : Nat → Addr → Prop}, EnvF K ca ps Γ H0 H σ env F → (∀ i ∈ vs, i ∉ ps) → ∃ F', (∀ i a, F' i a → F i a) ∧ EnvF K ca ps Γ H0 H (wipe σ vs) (gForget vs env) F'
  | [], σ, env, F, E, _ => ⟨F, fun _ _ f => f, E⟩
  | v :: vs, σ, env, F, E, h => by
    obtain ⟨F', h1, E'⟩ := EnvF.wipe vs (E.forgetV (h v List.mem_cons_self) none) fun i hi => h i (List.mem_cons_of_mem _ hi)
    refine ⟨F', fun i a f => (h1 i a f).2, ?_⟩
    rw [wipe_comm] at E'
    exact E'
theorem wipe_get (σ : St) {j : Nat} : ∀ {vs : List Nat}, j ∉ vs → (wipe σ vs)[j]? = σ[j]?
  | [], _ => rfl
  | v :: vs, h => by
    unfold L2.wipe
    rw [List.getElem?_set_ne (fun z => h (by simp [z]))]
    exact wipe_get σ fun z => h (List.mem_cons_of_mem _ z)
theorem wipe_at (σ : St) {j : Nat} (hj : j < σ.length) : ∀ {vs : List Nat}, j ∈ vs → (wipe σ vs)[j]? = some none
  | v :: vs, h => by
    unfold L2.wipe
    by_cases z : v = j
    · subst z
      rw [List.getElem?_set_self (by rw [wipe_length]; exact hj)]
    · rw [List.getElem?_set_ne z]
      rcases List.mem_cons.mp h with r | r
      · exact absurd r.symm z
      · exact wipe_at σ hj r
theorem wipe_eq {σ σ' : St} {ss vs : List Nat} (hl : σ'.length = σ.length) (h : ∀ j, j ∉ ss → σ'[j]? = σ[j]?) (hs : ∀ j ∈ ss, j ∈ vs) : wipe σ' vs = wipe σ vs := by
  apply List.ext_getElem?
  intro j
  by_cases hj : j ∈ vs
  · by_cases hl' : j < σ.length
    · rw [wipe_at σ hl' hj, wipe_at σ' (by rw [hl]; exact hl') hj]
    · rw [List.getElem?_eq_none (by rw [wipe_length]; omega), List.getElem?_eq_none (by rw [wipe_length]; omega)]
  · rw [wipe_get _ hj, wipe_get _ hj]
    exact h j fun z => hj (hs j z)
theorem gForget_get {env : Env ρ} {j : Nat} : ∀ {vs : List Nat}, j ∉ vs → (gForget vs env)[j]? = env[j]? := by
  intro vs
  induction vs generalizing env with
  | nil => intro _; rfl
  | cons v vs ih =>
    intro h
    show (gForget vs (env.set v .no))[j]? = _
    rw [ih fun z => h (List.mem_cons_of_mem _ z), List.getElem?_set_ne fun z => h (by simp [z])]
theorem restore_len (env1 : Env ρ) : ∀ (vs : List Nat) (env2 : Env ρ), (restore vs env1 env2).length = env2.length
  | [], _ => rfl
  | v :: vs, env2 => by
    show (restore vs env1 (env2.set v _)).length = _
    rw [restore_len env1 vs, List.length_set]
theorem restore_get (env1 : Env ρ) {j : Nat} : ∀ {vs : List Nat} {env2 : Env ρ}, j ∉ vs → (restore vs env1 env2)[j]? = env2[j]?
  | [], _, _ => rfl
  | v :: vs, env2, h => by
    show (restore vs env1 (env2.set v _))[j]? = _
    rw [restore_get env1 fun z => h (List.mem_cons_of_mem _ z), List.getElem?_set_ne fun z => h (by simp [z])]
theorem restore_at (env1 : Env ρ) {j : Nat} : ∀ {vs : List Nat} {env2 : Env ρ} {s : SV ρ}, j ∈ vs → (restore vs env1 env2)[j]? = some s → s = .no ∨ ∃ d, s = .dat d ∧ env1[j]? = some (.dat d)
  | v :: vs, env2, s, h, e => by
    have e' : (restore vs env1 (env2.set v (match env1[v]? with | some (.dat d) => .dat d | _ => .no)))[j]? = some s := e
    by_cases hv : j ∈ vs
    · exact restore_at env1 hv e'
    · rw [restore_get env1 hv] at e'
      rcases List.mem_cons.mp h with r | r
      · subst r
        have hl : j < env2.length := by
          have := (List.getElem?_eq_some_iff.mp e').1
          rwa [List.length_set] at this
        rw [List.getElem?_set_self hl] at e'
        cases e'
        cases z : env1[j]? with
        | none => exact .inl rfl
        | some t =>
          cases t with
          | dat d => exact .inr ⟨d, rfl, rfl⟩
          | _ => exact .inl rfl
      · exact absurd r hv
theorem EnvF.restore {vs : List Nat} {env1 env2 : Env ρ} {F1 F2 : Nat → Addr → Prop} (E1 : EnvF K ca ps Γ H0 H σ env1 F1) (E2 : EnvF K ca ps Γ H0' H' (L2.wipe σ vs) env2 F2) (e : Ex H0 H0') : ∃ F, (∀ i a, F i a → F2 i a) ∧ EnvF K ca ps Γ H0' H' σ (restore vs env1 env2) F := by
  refine ⟨fun j a => j ∉ vs ∧ F2 j a, fun i a f => f.2, by rw [restore_len, ← E2.len, wipe_length], E2.sub, E2.base, E2.absorb, E2.frame, E2.alive, E1.pin, fun j s hj => ?_, fun i j a f g => E2.dis i j a f.2 g.2, fun i a f => by rw [restore_len]; exact E2.fp i a f.2⟩
  by_cases hv : j ∈ vs
  · rcases restore_at env1 hv hj with rfl | ⟨d, rfl, h⟩
    · exact fun a f => f.1 hv
    · obtain ⟨⟨v, h1, h2⟩, _⟩ := E1.slot j _ h
      exact ⟨⟨v, h1, h2.mono e⟩, fun a f => f.1 hv⟩
  · rw [restore_get env1 hv] at hj
    have q := E2.slot j s hj
    rw [wipe_get σ hv] at q
    have z : (fun a => j ∉ vs ∧ F2 j a) = F2 j := by funext a; simp [hv]
    show SlotOk K ca H0' H' _ s (fun a => j ∉ vs ∧ F2 j a)
    rw [z]; exact q

/-- no exception leaves a comprehension's block -/
def Cm.nox (c : Cm) : Cm := { c with E := fun _ _ => False }
theorem sim_lc {X : Cx} {c : Cm} {wi : TI} {src : MA ρ} {g : D → Env ρ → Rs ρ Unit} {ss vs : List Nat} {tt : MT ρ} {me : ME ρ}
    (i2 : ∀ Γ H0 H σ env (R : It → Hp → Prop), EnvOk X.K c.ca c.ps Γ H0 H σ env → Wp X.K c Γ H0 (fun xs env H0' H' => ∀ J, EnvOk X.K c.ca c.ps Γ H0' H' σ env → WalkD ρ X.K c.ca J H0' xs → R J H') (src env) → wi σ H R)
    (hss : ∀ j ∈ ss, j ∈ vs) (hps : ∀ i ∈ vs, i ∉ c.ps) :
    SimE X.K c (tLc wi (tMG X.K c.nox g ss) (tMT X.K c.nox tt) (tM X.K c.nox me) vs) (mComp src g tt me vs) := fun Γ H0 H σ env Q E w => by
  refine i2 Γ H0 H σ env _ E ((Wp.bind w).imp fun xs env1 H1 H1' e1 q J E1 W => ?_)
  intro Dl hD
  -- what a mirror's run from here gives
  obtain ⟨F1, E1⟩ := E1
  obtain ⟨F1', k1, E1w⟩ := (E1.newo hD (.lst [])).wipe vs hps
  refine ⟨fun i n H' => n = xs.length - i ∧ i ≤ xs.length ∧ ∃ H0' env' F acc us, Ex H1 H0' ∧ EnvF X.K c.ca c.ps Γ H0' H' (wipe σ vs) env' F ∧ H' Dl = some (.lst us) ∧ RepA X.K c.ca H0' us acc ∧ H0' Dl = none ∧ (∀ i, ¬ F i Dl) ∧
    Wp X.K c Γ H1 (PostE X.K c Γ σ Q) (match compL g tt me vs (xs.drop i) env' acc with
      | .ok acc env2 => .ok (.lst acc) (restore vs env1 env2)
      | _ => .bad), ⟨xs.length, by omega, Nat.zero_le _, H1, gForget vs env1, F1', [], [], Evl.Ex.refl _, E1w, upd_same, .nil, E1.free hD, fun i f => E1.np hD i Dl (k1 i Dl f) rfl, q⟩, fun i n H2 hw => ?_⟩
  obtain ⟨rfl, hi, H02, env2, F2, acc, us, e2, E2, hD2, rA, h0D, hFD, w2⟩ := hw
  have hΓD : Γ.H Dl = none := E1.alive _ hD
  by_cases hlt : i < xs.length
  · refine .inr ⟨W.goes H02 H2 i e2 E2.sub hlt, fun H3 => ∃ H0' env' F acc us, Ex H1 H0' ∧ EnvF X.K c.ca c.ps Γ H0' H3 (wipe σ vs) env' F ∧ H3 Dl = some (.lst us) ∧ RepA X.K c.ca H0' us acc ∧ H0' Dl = none ∧ (∀ i, ¬ F i Dl) ∧
      Wp X.K c Γ H1 (PostE X.K c Γ σ Q) (match compL g tt me vs (xs.drop (i + 1)) env' acc with
        | .ok acc env2 => .ok (.lst acc) (restore vs env1 env2)
        | _ => .bad), fun H3 l4 => ⟨xs.length - (i + 1), by omega, rfl, hlt, l4⟩, fun x H3 y => ?_⟩
    obtain ⟨H03, e3, E3, r3, x3, n3⟩ := W.yields Γ c.ps H02 H2 (wipe σ vs) env2 F2 i xs[i] x H3 e2 E2 (List.getElem?_eq_getElem hlt) y
    have hD3 : H3 Dl = some (.lst us) := x3 _ _ hD2
    have h0D3 : H03 Dl = none := n3 _ h0D (by rw [hD2]; intro z; cases z)
    rw [List.drop_eq_getElem_cons hlt] at w2
    -- the target
    have w3 : ∃ env4, g xs[i] env2 = .ok () env4 ∧ Wp X.K c Γ H1 (PostE X.K c Γ σ Q) (match (match tt env4 with
      | .ok b env2 => if b = true then (match toD me env2 with
          | .ok d env3 => if acc.length < sizeLine then compL g tt me vs (xs.drop (i + 1)) (gForget vs env3) (acc ++ [d]) else .bad
          | _ => .bad) else compL g tt me vs (xs.drop (i + 1)) (gForget vs env2) acc
      | _ => .bad) with
        | .ok acc env2 => .ok (.lst acc) (restore vs env1 env2)
        | _ => .bad) := by
      unfold compL at w2
      cases z : g xs[i] env2 with
      | ok u env4 => rw [z] at w2; exact ⟨env4, rfl, w2⟩
      | exc c0 env4 => rw [z] at w2; exact w2.elim
      | bad => rw [z] at w2; exact w2.elim
    obtain ⟨env4, hg4, w4⟩ := w3
    refine ⟨Γ.at_ H03 H3 F2, H03, env2, xs[i], ⟨F2, E3.rebase⟩, r3, ?_⟩
    rw [hg4]
    intro H04 H4 e4 σ4 E4 ks
    obtain ⟨F4, E4⟩ := E4
    have E4' := E3.unbase E4
    have hD4 : H4 Dl = some (.lst us) := E4.frame Dl _ hD3 fun ⟨j, f⟩ => hFD j f
    have h0D4 : H04 Dl = none := E4.absorb Dl h0D3 (by show H3 Dl ≠ none; rw [hD3]; intro z; cases z) fun ⟨j, f⟩ => hFD j f
    have hFD4 : ∀ j, ¬ F4 j Dl := fun j f => by
      rcases (E4.fp j Dl f).2.2.2 with z | ⟨j', f'⟩
      · have z' : H3 Dl = none := z
        rw [hD3] at z'; cases z'
      · exact hFD j' f'
    have hws : wipe σ4 vs = wipe σ vs := by
      have h2 : wipe σ4 vs = wipe (wipe σ vs) vs := wipe_eq ks.1 ks.2 hss
      rw [h2]
      exact wipe_eq (ss := vs) (wipe_length _ _) (fun j hj => wipe_get σ hj) fun j hj => hj
    refine ⟨hws, ?_⟩
    -- the test
    have w5 : ∃ b env5, tt env4 = .ok b env5 ∧ Wp X.K c Γ H1 (PostE X.K c Γ σ Q) (match (if b = true then (match toD me env5 with
          | .ok d env3 => if acc.length < sizeLine then compL g tt me vs (xs.drop (i + 1)) (gForget vs env3) (acc ++ [d]) else .bad
          | _ => .bad) else compL g tt me vs (xs.drop (i + 1)) (gForget vs env5) acc) with
        | .ok acc env2 => .ok (.lst acc) (restore vs env1 env2)
        | _ => .bad) := by
      cases z : tt env4 with
      | ok u env5 => rw [z] at w4; exact ⟨u, env5, rfl, w4⟩
      | exc c0 env5 => rw [z] at w4; exact w4.elim
      | bad => rw [z] at w4; exact w4.elim
    obtain ⟨b, env5, ht5, w5⟩ := w5
    refine ⟨Γ.at_ H04 H4 F4, H04, env4, ⟨F4, E4'.rebase⟩, ?_⟩
    rw [ht5]
    intro H05 H5 e5 E5
    obtain ⟨F5, E5⟩ := E5
    have E5' := E4'.unbase E5
    have hD5 : H5 Dl = some (.lst us) := E5.frame Dl _ hD4 fun ⟨j, f⟩ => hFD4 j f
    have h0D5 : H05 Dl = none := E5.absorb Dl h0D4 (by show H4 Dl ≠ none; rw [hD4]; intro z; cases z) fun ⟨j, f⟩ => hFD4 j f
    have hFD5 : ∀ j, ¬ F5 j Dl := fun j f => by
      rcases (E5.fp j Dl f).2.2.2 with z | ⟨j', f'⟩
      · have z' : H4 Dl = none := z
        rw [hD4] at z'; cases z'
      · exact hFD4 j' f'
    have e15 : Ex H1 H05 := ((e2.trans e3).trans e4).trans e5
    cases b with
    | true =>
      rw [if_pos rfl] at w5 ⊢
      have w6 : ∃ d env6, toD me env5 = .ok d env6 ∧ Wp X.K c Γ H1 (PostE X.K c Γ σ Q) (match (if acc.length < sizeLine then compL g tt me vs (xs.drop (i + 1)) (gForget vs env6) (acc ++ [d]) else .bad) with
        | .ok acc env2 => .ok (.lst acc) (restore vs env1 env2)
        | _ => .bad) := by
        cases z : toD me env5 with
        | ok u env6 => rw [z] at w5; exact ⟨u, env6, rfl, w5⟩
        | exc c0 env6 => rw [z] at w5; exact w5.elim
        | bad => rw [z] at w5; exact w5.elim
      obtain ⟨d, env6, hm6, w6⟩ := w6
      have base := E5'.rebase
      refine (show SimD X.K c.nox (tM X.K c.nox me) (toD me) from SimE.toD fun Γ H0 H σ env Q E w => ⟨Γ, H0, env, E, w⟩) (Γ.at_ H05 H5 F5) H05 H5 σ4 env5 _ ⟨F5, E5'.rebase⟩ ?_
      rw [hm6]
      refine fun H06 H6 e6 y E6 r6 => ?_
      obtain ⟨F6, E6⟩ := E6
      have E6' := E5'.unbase E6
      have hD6 : H6 Dl = some (.lst us) := E6.frame Dl _ hD5 fun ⟨j, f⟩ => hFD5 j f
      have h0D6 : H06 Dl = none := E6.absorb Dl h0D5 (by show H5 Dl ≠ none; rw [hD5]; intro z; cases z) fun ⟨j, f⟩ => hFD5 j f
      have hFD6 : ∀ j, ¬ F6 j Dl := fun j f => by
        rcases (E6.fp j Dl f).2.2.2 with z | ⟨j', f'⟩
        · have z' : H5 Dl = none := z
          rw [hD5] at z'; cases z'
        · exact hFD5 j' f'
      by_cases hz : acc.length < sizeLine
      · rw [if_pos hz] at w6
        have e26 : Ex H02 H06 := ((e3.trans e4).trans e5).trans e6
        refine ⟨us, hD6, by rw [rA.length]; exact hz, ?_⟩
        obtain ⟨F7, k7, E7⟩ := (E6'.other (o := .lst (us ++ [y])) h0D6 hFD6 hΓD).wipe vs hps
        rw [hws] at E7
        exact ⟨H06, gForget vs env6, F7, acc ++ [d], us ++ [y], e15.trans e6, E7, upd_same, (rA.mono e26).append (.cons r6 .nil), h0D6, fun j f => hFD6 j (k7 j Dl f), w6⟩
      · rw [if_neg hz] at w6; exact w6.elim
    | false =>
      rw [if_neg Bool.false_ne_true] at w5 ⊢
      obtain ⟨F7, k7, E7⟩ := E5'.wipe vs hps
      rw [hws] at E7
      exact ⟨H05, gForget vs env5, F7, acc, us, e15, E7, hD5, rA.mono ((e3.trans e4).trans e5), h0D5, fun j f => hFD5 j (k7 j Dl f), w5⟩
  · have e : i = xs.length := by omega
    subst e
    refine .inl ⟨W.stops H02 H2 e2 E2.sub, ?_⟩
    rw [List.drop_length] at w2
    obtain ⟨F3, k3, E3⟩ := EnvF.restore (E1.newo hD (.lst [])) E2 e2
    refine w2 H02 H2 e2 _ ⟨F3, fun a => a = Dl, E3, ⟨Dl, us, rfl, hD2, rA, fun a => Iff.rfl⟩, fun i a f z => hFD i (by rw [← z]; exact k3 i a f), fun a z => ?_⟩
    subst z
    exact ⟨h0D, (by rw [hD2]; intro z; cases z), .inl hΓD⟩
theorem em_lc {X : Cx} {c : Cm} {elt tg iter : Expr} {ifs : List Expr} {scope : Scope} {own : List (Str × Nat)} {pos : Pos} {src : MA ρ} {g : D → Env ρ → Rs ρ Unit} {ss : List Nat} {tt : MT ρ} {me : ME ρ}
    (hc : X.calm = true) (hN : X.N.Nodup) (hi : IM X c tg iter src) (ok : BlkOk X.N X.env.scope scope own)
    (hg : ∀ (s : Shared) (H : Hp) (C : Addr) (cl : List (Str × Addr)) (fp : List Addr), GM (X.blk s H scope (compEnvC scope cl C X.env) fp) c.nox tg g ss)
    (ht : ∀ (s : Shared) (H : Hp) (C : Addr) (cl : List (Str × Addr)) (fp : List Addr), QM (X.blk s H scope (compEnvC scope cl C X.env) fp) c.nox ifs tt)
    (he : ∀ (s : Shared) (H : Hp) (C : Addr) (cl : List (Str × Addr)) (fp : List Addr), EM (X.blk s H scope (compEnvC scope cl C X.env) fp) c.nox elt me)
    (hss : ∀ j ∈ ss, j ∈ own.map (·.2)) (hps : ∀ i ∈ own.map (·.2), i ∉ c.ps) (hs : ∀ x, foldedSetIterable iter X.env x = pure x := by intro _; rfl) :
    EM X c (.ListComp elt [⟨tg, iter, ifs, 0⟩] scope pos) (mComp src g tt me (own.map (·.2))) := by
  obtain ⟨wi, i1, i2⟩ := hi
  exact ⟨_, pe_lc (g := tMG X.K c.nox g ss) (tt := tMT X.K c.nox tt) (te := tM X.K c.nox me) hc hN i1 ok (fun s H C cl fp => (hg s H C cl fp).pg) (fun s H C cl fp => ht s H C cl fp) (fun s H C cl fp => (he s H C cl fp).pe) hs, sim_lc i2 hss hps⟩
end
end Mir
set_option Elab.async false
set_option linter.all false
set_option maxRecDepth 100000
set_option maxHeartbeats 4000000
/-! Mirror layer, part J: calls of defs, a def's promise by its mirror. -/
namespace Mir
open PySem PySem.Spec L2
variable {ρ : Type} [Rsc ρ]

/-- a def's mirror: its arguments, what it gives and what its own arguments have become -/
abbrev MF (ρ : Type) := List (SV ρ) → Rs ρ (SV ρ)
/-- the promise: n arguments, those at io may be changed -/
def spM (K : PySem.W.Frag) (ca : Str → Addr) (io : List Nat) (n : Nat) (m : MF ρ) : Sp := fun vs H Q E => vs.length = n ∧ ∃ Γ H0 args, Γ.H = H ∧ Γ.H0 = H0 ∧ EnvOk K ca io Γ H0 H (vs.map some) args ∧
  match m args with
  | .ok s args' => ∀ v H0' H', ResOk K ca io Γ H0' H' (vs.map some) args' v s → Q v H'
  | .exc x args' => ∀ H0' H', EnvOk K ca io Γ H0' H' (vs.map some) args' → E (.ref (ca x)) none H'
  | .bad => False

/-! ### arguments -/
inductive AK (ρ : Type) where
  | e (m : ME ρ) | io (j : Nat)
def SV.isOwn : SV ρ → Bool
  | .lst _ => true
  | .res _ => true
  | _ => false
def akVals : List (AK ρ) → Env ρ → Rs ρ (List (SV ρ))
  | [] => fun env => .ok [] env
  | .e m :: r => fun env => (toD m env).bind fun d env => (akVals r env).bind fun ss env => .ok (.dat d :: ss) env
  | .io j :: r => fun env => match env[j]? with
    | some s => if s.isOwn = true then (akVals r env).bind fun ss env => .ok (.no :: ss) env else .bad
    | none => .bad
def akFill : List (AK ρ) → List (SV ρ) → Env ρ → List (SV ρ)
  | .io j :: r, _ :: ss, env => (env[j]?.getD .no) :: akFill r ss env
  | .e _ :: r, s :: ss, env => s :: akFill r ss env
  | _, _, _ => []
def akBack : List (AK ρ) → List (SV ρ) → Env ρ → Env ρ
  | .io j :: r, s :: ss, env => akBack r ss (env.set j s)
  | .e _ :: r, _ :: ss, env => akBack r ss env
  | _, _, env => env
def akSlots : List (AK ρ) → List Nat
  | [] => []
  | .io j :: r => j :: akSlots r
  | .e _ :: r => akSlots r
def akIoFrom (k : Nat) : List (AK ρ) → List Nat
  | [] => []
  | .io _ :: r => k :: akIoFrom (k + 1) r
  | .e _ :: r => akIoFrom (k + 1) r
def akIo (as : List (AK ρ)) : List Nat := akIoFrom 0 as
theorem akBack_len : ∀ (as : List (AK ρ)) (ss : List (SV ρ)) (env : Env ρ), (akBack as ss env).length = env.length
  | [], _, _ => rfl
  | .io j :: r, [], env => rfl
  | .io j :: r, s :: ss, env => by unfold akBack; rw [akBack_len r, List.length_set]
  | .e _ :: r, [], env => rfl
  | .e _ :: r, s :: ss, env => by unfold akBack; exact akBack_len r ss env
theorem akBack_ne {k : Nat} : ∀ (as : List (AK ρ)) (ss : List (SV ρ)) (env : Env ρ), k ∉ akSlots as → (akBack as ss env)[k]? = env[k]?
  | [], _, _, _ => rfl
  | .io j :: r, [], env, _ => rfl
  | .io j :: r, s :: ss, env, h => by
    unfold akBack
    rw [akBack_ne r ss _ fun z => h (List.mem_cons_of_mem _ z), List.getElem?_set_ne fun z => h (by simp [akSlots, z])]
  | .e _ :: r, [], env, _ => rfl
  | .e _ :: r, s :: ss, env, h => by unfold akBack; exact akBack_ne r ss env h
theorem mem_akSlots {k : Nat} : ∀ {as : List (AK ρ)} {i : Nat}, as[i]? = some (.io k) → k ∈ akSlots as
  | .io j :: r, 0, h => by simp at h; subst h; simp [akSlots]
  | .e _ :: r, 0, h => by simp at h
  | .io j :: r, i + 1, h => List.mem_cons_of_mem _ (mem_akSlots (as := r) (i := i) (by simpa using h))
  | .e _ :: r, i + 1, h => mem_akSlots (as := r) (i := i) (by simpa using h)
theorem of_akSlots {k : Nat} : ∀ {as : List (AK ρ)}, k ∈ akSlots as → ∃ i : Nat, as[i]? = some (AK.io k)
  | .io j :: r, h => by
    rcases List.mem_cons.mp h with e | h
    · subst e; exact ⟨0, rfl⟩
    · obtain ⟨i, q⟩ := of_akSlots h; exact ⟨i + 1, by simpa using q⟩
  | .e _ :: r, h => by obtain ⟨i, q⟩ := of_akSlots (as := r) h; exact ⟨i + 1, by simpa using q⟩
theorem akBack_at {k : Nat} {s : SV ρ} : ∀ {as : List (AK ρ)} {ss : List (SV ρ)} {env : Env ρ} {i : Nat}, (akSlots as).Nodup → as[i]? = some (AK.io k) → ss[i]? = some s → k < env.length → (akBack as ss env)[k]? = some s
  | .io j :: r, t :: ss, env, 0, hn, h, e, hk => by
    simp at h e
    subst h e
    unfold akBack
    rw [akBack_ne r ss _ (List.nodup_cons.mp hn).1, List.getElem?_set_self hk]
  | .e _ :: r, t :: ss, env, 0, hn, h, e, hk => by simp at h
  | .io j :: r, t :: ss, env, i + 1, hn, h, e, hk => by
    unfold akBack
    exact akBack_at (as := r) (i := i) (List.nodup_cons.mp hn).2 (by simpa using h) (by simpa using e) (by rw [List.length_set]; exact hk)
  | .e _ :: r, t :: ss, env, i + 1, hn, h, e, hk => by
    unfold akBack
    exact akBack_at (as := r) (i := i) hn (by simpa using h) (by simpa using e) hk
  | .io j :: r, [], env, i, hn, h, e, hk => by simp at e
  | .e _ :: r, [], env, i, hn, h, e, hk => by simp at e
theorem ak_inj {k : Nat} : ∀ {as : List (AK ρ)} {i i' : Nat}, (akSlots as).Nodup → as[i]? = some (AK.io k) → as[i']? = some (AK.io k) → i = i'
  | .io j :: r, 0, 0, _, _, _ => rfl
  | .io j :: r, 0, i' + 1, hn, h, h' => by
    simp at h
    subst h
    exact absurd (mem_akSlots (as := r) (i := i') (by simpa using h')) (List.nodup_cons.mp hn).1
  | .io j :: r, i + 1, 0, hn, h, h' => by
    simp at h'
    subst h'
    exact absurd (mem_akSlots (as := r) (i := i) (by simpa using h)) (List.nodup_cons.mp hn).1
  | .io j :: r, i + 1, i' + 1, hn, h, h' => by rw [ak_inj (as := r) (i := i) (i' := i') (List.nodup_cons.mp hn).2 (by simpa using h) (by simpa using h')]
  | .e _ :: r, 0, _, _, h, _ => by simp at h
  | .e _ :: r, i + 1, 0, _, _, h' => by simp at h'
  | .e _ :: r, i + 1, i' + 1, hn, h, h' => by rw [ak_inj (as := r) (i := i) (i' := i') hn (by simpa using h) (by simpa using h')]
theorem mem_akIoFrom {i : Nat} : ∀ {as : List (AK ρ)} {k : Nat}, i ∈ akIoFrom k as ↔ ∃ j n, i = k + n ∧ as[n]? = some (AK.io j)
  | [], k => by simp [akIoFrom]
  | .io j :: r, k => by
    unfold akIoFrom
    rw [List.mem_cons, mem_akIoFrom (as := r)]
    constructor
    · rintro (rfl | ⟨j', n, rfl, h⟩)
      · exact ⟨j, 0, rfl, rfl⟩
      · exact ⟨j', n + 1, by omega, by simpa using h⟩
    · rintro ⟨j', n, rfl, h⟩
      cases n with
      | zero => exact .inl rfl
      | succ n => exact .inr ⟨j', n, by omega, by simpa using h⟩
  | .e _ :: r, k => by
    unfold akIoFrom
    rw [mem_akIoFrom (as := r)]
    constructor
    · rintro ⟨j', n, rfl, h⟩
      exact ⟨j', n + 1, by omega, by simpa using h⟩
    · rintro ⟨j', n, rfl, h⟩
      cases n with
      | zero => simp at h
      | succ n => exact ⟨j', n, by omega, by simpa using h⟩

/-- what has come of the arguments -/
inductive ArgR (K : PySem.W.Frag) (ca : Str → Addr) (H0 : Hp) (σ : St) : List (AK ρ) → List V → List (SV ρ) → Prop
  | nil : ArgR K ca H0 σ [] [] []
  | e {m : ME ρ} {r : List (AK ρ)} {v : V} {vs : List V} {d : D} {ss : List (SV ρ)} : Rep K ca H0 v d → ArgR K ca H0 σ r vs ss → ArgR K ca H0 σ (.e m :: r) (v :: vs) (.dat d :: ss)
  | io {j : Nat} {r : List (AK ρ)} {v : V} {vs : List V} {ss : List (SV ρ)} : σ[j]? = some (some v) → ArgR K ca H0 σ r vs ss → ArgR K ca H0 σ (.io j :: r) (v :: vs) (.no :: ss)
section
variable {K : PySem.W.Frag} {ca : Str → Addr} {H0 H0' H : Hp} {σ : St}
theorem ArgR.mono (e : Ex H0 H0') {as : List (AK ρ)} {vs : List V} {ss : List (SV ρ)} (h : ArgR K ca H0 σ as vs ss) : ArgR K ca H0' σ as vs ss := by
  induction h with
  | nil => exact .nil
  | e r _ ih => exact .e (r.mono e) ih
  | io r _ ih => exact .io r ih
theorem ArgR.len {as : List (AK ρ)} {vs : List V} {ss : List (SV ρ)} (h : ArgR K ca H0 σ as vs ss) : vs.length = as.length := by
  induction h with
  | nil => rfl
  | e r _ ih => rw [List.length_cons, List.length_cons, ih]
  | io r _ ih => rw [List.length_cons, List.length_cons, ih]
theorem ArgR.fill_len {as : List (AK ρ)} {vs : List V} {ss : List (SV ρ)} (env : Env ρ) (h : ArgR K ca H0 σ as vs ss) : vs.length = (akFill as ss env).length := by
  induction h with
  | nil => rfl
  | e r _ ih => unfold akFill; rw [List.length_cons, List.length_cons, ih]
  | io r _ ih => unfold akFill; rw [List.length_cons, List.length_cons, ih]
theorem ArgR.at_ {as : List (AK ρ)} {vs : List V} {ss : List (SV ρ)} {env : Env ρ} (h : ArgR K ca H0 σ as vs ss) : ∀ {i : Nat} {s : SV ρ}, (akFill as ss env)[i]? = some s →
    (∃ v d, vs[i]? = some v ∧ s = .dat d ∧ Rep K ca H0 v d ∧ ∀ j : Nat, as[i]? ≠ some (AK.io j)) ∨ (∃ v j, vs[i]? = some v ∧ as[i]? = some (AK.io j) ∧ σ[j]? = some (some v) ∧ s = env[j]?.getD .no) := by
  induction h with
  | nil => intro i s e; simp [akFill] at e
  | @e m r v vs d ss hr _ ih =>
    intro i s e
    unfold akFill at e
    cases i with
    | zero =>
      simp at e
      subst e
      exact .inl ⟨v, d, rfl, rfl, hr, fun j z => by simp at z⟩
    | succ i => simpa using ih (i := i) (s := s) (by simpa using e)
  | @io j r v vs ss hr _ ih =>
    intro i s e
    unfold akFill at e
    cases i with
    | zero =>
      simp at e
      exact .inr ⟨v, j, rfl, rfl, hr, e.symm⟩
    | succ i => simpa using ih (i := i) (s := s) (by simpa using e)
theorem ArgR.io_at {as : List (AK ρ)} {vs : List V} {ss : List (SV ρ)} {i j : Nat} (h : ArgR K ca H0 σ as vs ss) (e : as[i]? = some (AK.io j)) : ∃ v, vs[i]? = some v ∧ σ[j]? = some (some v) := by
  induction h generalizing i with
  | nil => simp at e
  | e r _ ih =>
    cases i with
    | zero => simp at e
    | succ i => simpa using ih (i := i) (by simpa using e)
  | @io j' r v vs ss hr _ ih =>
    cases i with
    | zero => simp at e; subst e; exact ⟨v, rfl, hr⟩
    | succ i => simpa using ih (i := i) (by simpa using e)

/-- a call: the callee's start, and back -/
theorem call_env {ps : List Nat} {Γ : Gam} {env : Env ρ} {as : List (AK ρ)} {vs : List V} {ss : List (SV ρ)} (E : EnvOk K ca ps Γ H0 H σ env) (hA : ArgR K ca H0 σ as vs ss) (hnd : (akSlots as).Nodup) :
    ∃ Γ', Γ'.H = H ∧ Γ'.H0 = H0 ∧ EnvOk K ca (akIo as) Γ' H0 H (vs.map some) (akFill as ss env) ∧
      (∀ H0' H' args' v s, ResOk K ca (akIo as) Γ' H0' H' (vs.map some) args' v s → ResOk K ca ps Γ H0' H' σ (akBack as args' env) v s ∧ Ex H0 H0') ∧
      ∀ H0' H' args', EnvOk K ca (akIo as) Γ' H0' H' (vs.map some) args' → EnvOk K ca ps Γ H0' H' σ (akBack as args' env) := by
  obtain ⟨F, E⟩ := E
  -- the pins
  have pinv : ∀ i, i ∈ akIo as → ∃ v, vs[i]? = some v := fun i hi => by
    obtain ⟨j, n, e, h⟩ := mem_akIoFrom.mp hi
    rw [Nat.zero_add] at e
    subst e
    obtain ⟨v, h1, _⟩ := hA.io_at h
    exact ⟨v, h1⟩
  let M : Addr → Prop := fun a => ∃ i j : Nat, as[i]? = some (AK.io j) ∧ F j a
  let Γ' : Gam := ⟨H, H0, M, (akIo as).map fun i => (i, (vs[i]?).getD .non)⟩
  let FC : Nat → Addr → Prop := fun i a => ∃ j : Nat, as[i]? = some (AK.io j) ∧ F j a
  have start : EnvF K ca (akIo as) Γ' H0 H (vs.map some) (akFill as ss env) FC := by
    refine ⟨by rw [List.length_map]; exact hA.fill_len env, E.sub, Evl.Ex.refl _, fun _ h _ _ => h, fun _ _ h _ => h, fun _ h => h, ⟨fun p hp => ?_, ?_⟩, fun i s e => ?_, fun i i' a f g => ?_, fun i a f => ?_⟩
    · obtain ⟨i, hi, rfl⟩ := List.mem_map.mp hp
      obtain ⟨v, hv⟩ := pinv i hi
      rw [List.getElem?_map, hv]
      rfl
    · show ((akIo as).map fun i => (i, (vs[i]?).getD .non)).map (·.1) = akIo as
      rw [List.map_map]
      exact List.map_id _
    · rcases hA.at_ e with ⟨v, d, h1, rfl, h2, h3⟩ | ⟨v, j, h1, h2, h3, rfl⟩
      · refine ⟨⟨v, by rw [List.getElem?_map, h1]; rfl, h2⟩, fun a ⟨j, z, _⟩ => h3 j z⟩
      · have key : (fun a => ∃ j : Nat, as[i]? = some (AK.io j) ∧ F j a) = F j := by
          funext a
          apply propext
          constructor
          · rintro ⟨j', e', f⟩
            rw [h2] at e'
            cases e'
            exact f
          · exact fun f => ⟨j, h2, f⟩
        show SlotOk K ca H0 H _ _ (fun a => ∃ j : Nat, as[i]? = some (AK.io j) ∧ F j a)
        rw [key, List.getElem?_map, h1]
        cases z : env[j]? with
        | none =>
          intro a f
          have := (E.fp j a f).1
          rw [List.getElem?_eq_none_iff] at z
          omega
        | some t =>
          have q := E.slot j t z
          rw [h3] at q
          exact q
    · obtain ⟨j, h1, f1⟩ := f
      obtain ⟨j', h2, f2⟩ := g
      have := E.dis j j' a f1 f2
      subst this
      exact ak_inj hnd h1 h2
    · obtain ⟨j, h1, f1⟩ := f
      obtain ⟨v, h2, _⟩ := hA.io_at h1
      refine ⟨?_, (E.fp j a f1).2.1, (E.fp j a f1).2.2.1, .inr ⟨i, j, h1, f1⟩⟩
      rw [← hA.fill_len env]
      exact (List.getElem?_eq_some_iff.mp h2).1
  have nf : ∀ a, Γ.H a ≠ none → ¬ Γ.M a → ¬ M a := fun a h1 h2 ⟨i, j, _, f⟩ => by
    rcases (E.fp j a f).2.2.2 with z | z
    · exact h1 z
    · exact h2 z
  have back : ∀ {H0' H' : Hp} {args' : List (SV ρ)} {F2 : Nat → Addr → Prop}, EnvF K ca (akIo as) Γ' H0' H' (vs.map some) args' F2 →
      EnvF K ca ps Γ H0' H' σ (akBack as args' env) (fun k a => (∃ i : Nat, as[i]? = some (AK.io k) ∧ F2 i a) ∨ ((∀ i : Nat, as[i]? ≠ some (AK.io k)) ∧ F k a)) := by
    intro H0' H' args' F2 E2
    have hlen : vs.length = args'.length := by
      have := E2.len
      rwa [List.length_map] at this
    refine ⟨by rw [akBack_len]; exact E.len, E2.sub, E.base.trans E2.base, fun a h1 h2 h3 => E2.absorb a (E.absorb a h1 h2 h3) (fun z => h2 (E.alive a z)) (nf a h2 h3), fun a o h1 h2 => E2.frame a o (E.frame a o h1 h2) (nf a (by rw [h1]; intro z; cases z) h2), fun a h => E.alive a (E2.alive a h), E.pin, fun k s e => ?_, fun k k' a f g => ?_, fun k a f => ?_⟩
    · by_cases hk : ∃ i : Nat, as[i]? = some (AK.io k)
      · obtain ⟨i, hi⟩ := hk
        obtain ⟨v, h1, h2⟩ := hA.io_at hi
        have hil : i < args'.length := by rw [← hlen]; exact (List.getElem?_eq_some_iff.mp h1).1
        have hkl : k < env.length := by
          have := (List.getElem?_eq_some_iff.mp e).1
          rwa [akBack_len] at this
        rw [akBack_at hnd hi (List.getElem?_eq_getElem hil) hkl] at e
        cases e
        have key : (fun a => (∃ i : Nat, as[i]? = some (AK.io k) ∧ F2 i a) ∨ ((∀ i : Nat, as[i]? ≠ some (AK.io k)) ∧ F k a)) = F2 i := by
          funext a
          apply propext
          constructor
          · rintro (⟨i', e', f⟩ | ⟨n, _⟩)
            · rw [ak_inj hnd hi e']; exact f
            · exact absurd hi (n i)
          · exact fun f => .inl ⟨i, hi, f⟩
        have q := E2.slot i _ (List.getElem?_eq_getElem hil)
        rw [List.getElem?_map, h1] at q
        rw [h2]
        show SlotOk K ca H0' H' _ _ (fun a => (∃ i : Nat, as[i]? = some (AK.io k) ∧ F2 i a) ∨ ((∀ i : Nat, as[i]? ≠ some (AK.io k)) ∧ F k a))
        rw [key]
        exact q
      · have hk' : ∀ i : Nat, as[i]? ≠ some (AK.io k) := fun i z => hk ⟨i, z⟩
        rw [akBack_ne as args' env fun z => hk (of_akSlots z)] at e
        have key : (fun a => (∃ i : Nat, as[i]? = some (AK.io k) ∧ F2 i a) ∨ ((∀ i : Nat, as[i]? ≠ some (AK.io k)) ∧ F k a)) = F k := by
          funext a
          apply propext
          constructor
          · rintro (⟨i', e', f⟩ | ⟨_, f⟩)
            · exact absurd e' (hk' i')
            · exact f
          · exact fun f => .inr ⟨hk', f⟩
        show SlotOk K ca H0' H' _ _ (fun a => (∃ i : Nat, as[i]? = some (AK.io k) ∧ F2 i a) ∨ ((∀ i : Nat, as[i]? ≠ some (AK.io k)) ∧ F k a))
        rw [key]
        refine (E.slot k s e).mono E2.base fun a f => ?_
        obtain ⟨_, _, k2, _⟩ := E.fp k a f
        cases z : H a with
        | none => exact absurd z k2
        | some o => exact E2.frame a o z fun ⟨i, j, hi, fj⟩ => hk' i (by rw [← E.dis j k a fj f]; exact hi)
    · rcases f with ⟨i, h1, f⟩ | ⟨h1, f⟩
      · rcases g with ⟨i', h2, g⟩ | ⟨h2, g⟩
        · have := E2.dis i i' a f g
          subst this
          rw [h1] at h2
          cases h2
          rfl
        · exfalso
          rcases (E2.fp i a f).2.2.2 with z | ⟨i', j, hi, fj⟩
          · exact (E.fp k' a g).2.2.1 z
          · exact h2 i' (by rw [← E.dis j k' a fj g]; exact hi)
      · rcases g with ⟨i', h2, g⟩ | ⟨h2, g⟩
        · exfalso
          rcases (E2.fp i' a g).2.2.2 with z | ⟨i'', j, hi, fj⟩
          · exact (E.fp k a f).2.2.1 z
          · exact h1 i'' (by rw [← E.dis j k a fj f]; exact hi)
        · exact E.dis k k' a f g
    · rw [akBack_len]
      rcases f with ⟨i, h1, f⟩ | ⟨h1, f⟩
      · obtain ⟨v, h2, h3⟩ := hA.io_at h1
        obtain ⟨_, k1, k2, k3⟩ := E2.fp i a f
        refine ⟨by rw [← E.len]; exact (List.getElem?_eq_some_iff.mp h3).1, k1, k2, ?_⟩
        rcases k3 with z | ⟨i', j, hi, fj⟩
        · exact .inl (E.alive a z)
        · exact (E.fp j a fj).2.2.2
      · obtain ⟨k0, k1, k2, k3⟩ := E.fp k a f
        have nM : ¬ M a := fun ⟨i, j, hi, fj⟩ => h1 i (by rw [← E.dis j k a fj f]; exact hi)
        refine ⟨k0, E2.absorb a k1 k2 nM, fun z => ?_, k3⟩
        cases z2 : H a with
        | none => exact k2 z2
        | some o => rw [E2.frame a o z2 nM] at z; cases z
  refine ⟨Γ', rfl, rfl, ⟨FC, start⟩, fun H0' H' args' v s R => ?_, fun H0' H' args' ⟨F2, E2⟩ => ⟨_, back E2⟩⟩
  obtain ⟨F2, G2, E2, hs, hd, hG⟩ := R
  refine ⟨⟨_, G2, back E2, hs, fun k a f => ?_, fun a g => ?_⟩, E2.base⟩
  · rcases f with ⟨i, h1, f⟩ | ⟨h1, f⟩
    · exact hd i a f
    · intro g
      rcases (hG a g).2.2 with z | ⟨i', j, hi, fj⟩
      · exact (E.fp k a f).2.2.1 z
      · exact h1 i' (by rw [← E.dis j k a fj f]; exact hi)
  · obtain ⟨k1, k2, k3⟩ := hG a g
    refine ⟨k1, k2, ?_⟩
    rcases k3 with z | ⟨i', j, hi, fj⟩
    · exact .inl (E.alive a z)
    · exact (E.fp j a fj).2.2.2
end
end Mir
set_option Elab.async false
set_option linter.all false
set_option maxRecDepth 100000
set_option maxHeartbeats 4000000
/-! Mirror layer, part K: calls by the syntax; a def keeps the promise of its mirror; name = [..]. -/
namespace Mir
open PySem PySem.Spec L2
open PyProof.Rows (envOfC)
variable {ρ : Type} [Rsc ρ]
def ndB : List Nat → Bool
  | [] => true
  | x :: r => !(r.contains x) && ndB r
theorem ndB_nodup : ∀ {l : List Nat}, ndB l = true → l.Nodup
  | [], _ => List.nodup_nil
  | x :: r, h => by
    have h' : (!(r.contains x) && ndB r) = true := h
    rw [Bool.and_eq_true] at h'
    exact List.nodup_cons.mpr ⟨by simpa using h'.1, ndB_nodup h'.2⟩

def KM (X : Cx) (c : Cm) (es : List Expr) (as : List (AK ρ)) : Prop := ∃ t, PA X es t ∧ ∀ Γ H0 H σ (env : Env ρ) (Q : List V → Hp → Prop), EnvOk X.K c.ca c.ps Γ H0 H σ env →
  Wp X.K c Γ H0 (fun ss env' H0' H' => ∀ vs, EnvOk X.K c.ca c.ps Γ H0' H' σ env' → ArgR X.K c.ca H0' σ as vs ss → Q vs H') (akVals as env) → t σ H Q
def mCall (m : MF ρ) (as : List (AK ρ)) : ME ρ := fun env => (akVals as env).bind fun ss env1 => match m (akFill as ss env1) with
  | .ok s args' => .ok s (akBack as args' env1)
  | .exc x args' => .exc x (akBack as args' env1)
  | .bad => .bad
/-- a def of the module that keeps the promise of its mirror -/
def Cal (P : Program) (w : World) (K : PySem.W.Frag) (mg : Str → Option Value) (base : Heap) (ca : Str → Addr) (x : Str) (k : Nat) (io : List Nat) (n : Nat) (m : MF ρ) : Prop :=
  ∃ f fd ps, FnOk P w K mg base (L2.CX P w) k f fd ps (spM K ca io n m) ∧ mg x = some (.ref f) ∧ PySem.W.keepIn K (.ref f) = true ∧ Binds K fd ps []
section
variable {X : Cx} {c : Cm} {e : Expr} {es : List Expr} {ma : ME ρ} {as : List (AK ρ)} {pos : Pos}
theorem km_nil : KM X c [] ([] : List (AK ρ)) := ⟨_, pa_nil, fun Γ H0 H σ env Q E w => w H0 H (Evl.Ex.refl _) [] E .nil⟩
theorem km_cons (ha : EM X c e ma) (hr : KM X c es as) (hs : starEach (e :: es) X.env = (false, eval e X.env) :: starEach es X.env := by rfl) : KM X c (e :: es) (.e ma :: as) := by
  obtain ⟨t, h1, h2⟩ := ha
  obtain ⟨u, g1, g2⟩ := hr
  refine ⟨_, pa_cons h1 g1 hs, fun Γ H0 H σ env Q E w => ?_⟩
  refine h2.toD Γ H0 H σ env _ E ((Wp.bind w).imp fun d env1 H1 H1' e1 q x E1 r => ?_)
  refine g2 Γ H1 H1' σ env1 _ E1 ((Wp.bind q).imp fun ss env2 H2 H2' e2 q2 vs E2 r2 => ?_)
  exact q2 H2 H2' (Evl.Ex.refl _) (x :: vs) E2 (.e (r.mono e2) r2)
theorem km_io {x : Str} {px : Pos} (j : Nat) (hr : KM X c es as) (hN : X.N[j]? = some x := by rfl) (hv : Vis X.env.scope x := by first | exact Or.inl rfl | exact Or.inr (Or.inl rfl) | exact Or.inr (Or.inr rfl)) (hd : (x == ("__debug__" : Str)) = false := by decide)
    (hcd : (x == ("__classdict__" : Str)) = false := by decide) (hs : starEach (.Name x px :: es) X.env = (false, eval (.Name x px) X.env) :: starEach es X.env := by rfl) : KM X c (.Name x px :: es) (.io j :: as) := by
  obtain ⟨u, g1, g2⟩ := hr
  refine ⟨_, pa_cons (pe_var (i := j) hN hv hd hcd) g1 hs, fun Γ H0 H σ env Q E w => ?_⟩
  unfold akVals at w
  cases z : env[j]? with
  | none => rw [z] at w; exact w.elim
  | some s =>
    rw [z] at w
    dsimp only at w
    by_cases ho : s.isOwn = true
    · rw [if_pos ho] at w
      have hv : ∃ v, σ[j]? = some (some v) := by
        cases s with
        | lst xs => obtain ⟨p, vs, h, _⟩ := E.own z; exact ⟨_, h⟩
        | res r =>
          obtain ⟨F, E⟩ := E
          obtain ⟨v, h, _⟩ := E.slot j _ z
          refine ⟨v, ?_⟩
          cases q : σ[j]? with
          | none => rw [q] at h; cases h
          | some w => rw [q] at h; exact congrArg some h
        | no => cases ho
        | dat d => cases ho
      obtain ⟨v, hv⟩ := hv
      refine ⟨v, hv, ?_⟩
      refine g2 Γ H0 H σ env _ E ((Wp.bind w).imp fun ss env2 H2 H2' e2 q2 vs E2 r2 => ?_)
      exact q2 H2 H2' (Evl.Ex.refl _) (v :: vs) E2 (.io hv r2)
    · rw [if_neg ho] at w; exact w.elim
theorem sim_call {K : PySem.W.Frag} {io : List Nat} {n : Nat} {m : MF ρ} {E' : XK} {vs : List V} {ss : List (SV ρ)} {Γ : Gam} {H0 H : Hp} {σ : St} {env : Env ρ} {Q : VK} (hio : akIo as = io) (hn : as.length = n) (hnd : (akSlots as).Nodup)
    (hcE : ∀ x H', c.E x H' → E' (.ref (c.ca x)) none H') (E : EnvOk K c.ca c.ps Γ H0 H σ env) (hA : ArgR K c.ca H0 σ as vs ss) (w : Wp K c Γ H0 (PostE K c Γ σ Q) (match m (akFill as ss env) with
  | .ok s args' => .ok s (akBack as args' env)
  | .exc x args' => .exc x (akBack as args' env)
  | .bad => .bad)) : spM K c.ca io n m vs H Q E' := by
  obtain ⟨Γ', h1, h2, h3, h4, h5⟩ := call_env E hA hnd
  rw [hio] at h3 h4 h5
  have hl : vs.length = n := by
    rw [← hn]
    exact hA.len
  refine ⟨hl, Γ', H0, _, h1, h2, h3, ?_⟩
  cases z : m (akFill as ss env) with
  | ok s args' =>
    rw [z] at w
    intro v H0' H' R
    obtain ⟨R', e'⟩ := h4 H0' H' args' v s R
    exact w H0' H' e' v R'
  | exc x args' =>
    rw [z] at w
    intro H0' H' E1
    exact hcE x H' (w H0' H' σ (h5 H0' H' args' E1))
  | bad => rw [z] at w; exact w
theorem em_call {x : Str} {k j n : Nat} {io : List Nat} {m : MF ρ} {E' : XK} {p : Pos} (G : Cal X.prog X.w X.K X.mg X.base c.ca x k io n m) (hr : Room j X.A) (hkj : k ≤ j) (hx : Passes (L2.CX X.prog X.w) X E') (hcE : ∀ x H', c.E x H' → E' (.ref (c.ca x)) none H')
    (ha : KM X c (e :: es) as) (hio : akIo as = io := by rfl) (hn : as.length = n := by rfl) (hnd : ndB (akSlots as) = true := by rfl) (hg : Gl X x := by rfl)
    (hdb : (x == ("__debug__" : Str)) = false := by decide) (he : starEach (e :: es) X.env = (false, eval e X.env) :: starEach es X.env := by rfl) (hpl : (backTo pos (starEach es X.env)).any (·.1) = false := by rfl) :
    EM X c (.Call (.Name x p) (e :: es) [] pos) (mCall m as) := by
  obtain ⟨f, fd, ps, G, hm, hk, hb⟩ := G
  obtain ⟨t, h1, h2⟩ := ha
  refine ⟨_, pe_call G (hr.mono hkj) hg hm hk hb .nil hx h1 hdb he hpl, fun Γ H0 H σ env Q E w => ?_⟩
  refine h2 Γ H0 H σ env _ E ((Wp.bind w).imp fun ss env1 H1 H1' e1 q vs E1 r1 => ?_)
  rw [List.append_nil]
  exact sim_call hio hn (ndB_nodup hnd) hcE E1 r1 q
theorem em_call0 {x : Str} {k j : Nat} {m : MF ρ} {E' : XK} {p : Pos} (G : Cal X.prog X.w X.K X.mg X.base c.ca x k [] 0 m) (hr : Room j X.A) (hkj : k ≤ j) (hx : Passes (L2.CX X.prog X.w) X E') (hcE : ∀ x H', c.E x H' → E' (.ref (c.ca x)) none H') (hg : Gl X x := by rfl)
    (hdb : (x == ("__debug__" : Str)) = false := by decide) : EM X c (.Call (.Name x p) [] [] pos) (mCall m ([] : List (AK ρ))) := by
  obtain ⟨f, fd, ps, G, hm, hk, hb⟩ := G
  refine ⟨_, pe_call0 G (hr.mono hkj) hg hm hk hb .nil hx hdb, fun Γ H0 H σ env Q E w => ?_⟩
  exact sim_call (as := []) rfl rfl List.nodup_nil hcE E .nil w
end

/-! ### a def's body -/
def keep (io : List Nat) (n : Nat) (env : Env ρ) : Env ρ := (List.range n).map fun i => if i ∈ io then env[i]?.getD .no else .no
def mFn (io : List Nat) (n nN : Nat) (body : MS ρ) : MF ρ := fun args => match body (args ++ List.replicate (nN - n) .no) with
  | .nx env => .ok (.dat .non) (keep io n env)
  | .rt s env => .ok s (keep io n env)
  | .exc x env => .exc x (keep io n env)
  | _ => .bad
section
variable {K : PySem.W.Frag} {ca : Str → Addr} {io : List Nat} {Γ : Gam} {H0 H : Hp} {σ : St} {env args : Env ρ} {F : Nat → Addr → Prop} {vs : List V} {n : Nat} {N : List Str}
theorem start_env (E : EnvF K ca io Γ H0 H (vs.map some) args F) (hl : vs.length = n) : EnvF K ca io Γ H0 H (L2.start N vs) (args ++ List.replicate (N.length - n) .no) F := by
  have hla : args.length = vs.length := by
    have := E.len
    rw [List.length_map] at this
    exact this.symm
  unfold L2.start
  refine ⟨by rw [List.length_append, List.length_append, List.length_map, List.length_replicate, List.length_replicate, hla, hl], E.sub, E.base, E.absorb, E.frame, E.alive, ⟨fun p hp => ?_, E.pin.2⟩, fun i s e => ?_, E.dis, fun i a f => ?_⟩
  · have h := E.pin.1 p hp
    rw [List.getElem?_append_left (List.getElem?_eq_some_iff.mp h).1]
    exact h
  · by_cases hi : i < args.length
    · rw [List.getElem?_append_left hi] at e
      rw [List.getElem?_append_left (by rw [List.length_map, ← hla]; exact hi)]
      exact E.slot i s e
    · rw [List.getElem?_append_right (by omega)] at e
      have : s = .no := by
        rw [List.getElem?_replicate] at e
        split at e
        · exact (Option.some.inj e).symm
        · cases e
      subst this
      intro a f
      exact hi (E.fp i a f).1
  · obtain ⟨k0, k1⟩ := E.fp i a f
    exact ⟨by rw [List.length_append]; omega, k1⟩
theorem keep_env (E : EnvF K ca io Γ H0 H σ env F) (hp : ∀ p ∈ Γ.pins, (vs.map some)[p.1]? = some (some p.2)) (hl : vs.length = n) : EnvF K ca io Γ H0 H (vs.map some) (keep io n env) (fun i a => (i ∈ io ∧ i < n) ∧ F i a) := by
  have hk : (keep io n env).length = n := by unfold keep; rw [List.length_map, List.length_range]
  refine ⟨by rw [hk, List.length_map, hl], E.sub, E.base, E.absorb, E.frame, E.alive, ⟨hp, E.pin.2⟩, fun i s e => ?_, fun i j a f g => E.dis i j a f.2 g.2, fun i a f => ⟨by rw [hk]; exact f.1.2, (E.fp i a f.2).2⟩⟩
  have hi : i < n := by rw [← hk]; exact (List.getElem?_eq_some_iff.mp e).1
  unfold keep at e
  rw [List.getElem?_map, List.getElem?_range hi] at e
  have e' : (if i ∈ io then env[i]?.getD .no else SV.no) = s := Option.some.inj e
  by_cases hio : i ∈ io
  · rw [if_pos hio] at e'
    have key : (fun a => (i ∈ io ∧ i < n) ∧ F i a) = F i := by
      funext a
      apply propext
      exact ⟨fun f => f.2, fun f => ⟨⟨hio, hi⟩, f⟩⟩
    show SlotOk K ca H0 H _ s (fun a => (i ∈ io ∧ i < n) ∧ F i a)
    rw [key]
    cases z : env[i]? with
    | none =>
      rw [z] at e'
      subst e'
      intro a f
      have := (E.fp i a f).1
      rw [List.getElem?_eq_none_iff] at z
      omega
    | some t =>
      rw [z] at e'
      have e2 : t = s := e'
      subst e2
      rw [← E.pin.2] at hio
      obtain ⟨p, hp1, rfl⟩ := List.mem_map.mp hio
      have q := E.slot p.1 t z
      rw [E.pin.1 p hp1] at q
      rw [hp p hp1]
      exact q
  · rw [if_neg hio] at e'
    subst e'
    exact fun a f => hio f.1.1
end
section
variable {P : Program} {w : World} {K : PySem.W.Frag} {mg : Str → Option Value} {base : Heap} {ca : Str → Addr}
/-- THE RULE for a def -/
theorem fn_mir {x qual : Str} {st : Stmt} {f : Addr} {fd : FuncData} {N ps : List Str} {k n : Nat} {io : List Nat} {body : MS ρ} (F : Fun K x qual st f fd) (S : FnScope N ps (defScope st)) (hps : ps.length = n) (hnN : n ≤ N.length)
    (hb : ∀ (cdv : Value) (A : Around) (outer : List PySem.Env) (s : Shared) (H : Hp) (E : XK), Room k (A.deeper (envOfC qual (defScope st) s.heap.objs.size f cdv)) →
      Takes (cxOf (L2.CX P w) P w K mg base N qual (defScope st) f cdv A outer s H E) (fun cls d _ H => E cls d H) →
      Passes (L2.CX P w) (cxOf (L2.CX P w) P w K mg base N qual (defScope st) f cdv A outer s H E) E →
      PassesOwn (model P w) (cxOf (L2.CX P w) P w K mg base N qual (defScope st) f cdv A outer s H E).A (cxOf (L2.CX P w) P w K mg base N qual (defScope st) f cdv A outer s H E).env (cxOf (L2.CX P w) P w K mg base N qual (defScope st) f cdv A outer s H E).xe →
      BM (cxOf (L2.CX P w) P w K mg base N qual (defScope st) f cdv A outer s H E) ⟨ca, io, fun x H' => E (.ref (ca x)) none H'⟩ (defBody st) body) :
    FnOk P w K mg base (L2.CX P w) (k + 1) f fd ps (spM K ca io n (mFn io n N.length body)) := by
  refine F.okX S (fun vs H Q E h => by rw [hps]; exact h.1) (fun cdv A outer s H vs Q E hr h => ?_)
  have tk : Takes (cxOf (L2.CX P w) P w K mg base N qual (defScope st) f cdv A outer s H E) (fun cls d _ H => E cls d H) := takes_of rfl rfl rfl rfl
  obtain ⟨t, h1, h2⟩ := hb cdv A outer s H E hr tk (passes_call tk fun _ _ _ _ h => h) (passes_of rfl)
  refine ⟨t, h1, ?_⟩
  obtain ⟨hl, Γ, H0, args, rfl, rfl, ⟨F0, E0⟩, q⟩ := h
  have hp := E0.pin.1
  refine h2 Γ Γ.H0 Γ.H (L2.start N vs) _ _ ⟨F0, start_env E0 hl⟩ ?_
  unfold mFn at q
  cases z : body (args ++ List.replicate (N.length - n) .no) with
  | nx env' =>
    rw [z] at q
    intro σ' H0' H' e' E'
    obtain ⟨F', E'⟩ := E'
    exact q .non H0' H' ((show EnvOk K ca io Γ H0' H' (vs.map some) (keep io n env') from ⟨_, keep_env E' hp hl⟩).dat .non)
  | rt r env' =>
    rw [z] at q
    intro σ' H0' H' v e' R
    obtain ⟨F', G', E', hs, hd, hG⟩ := R
    exact q v H0' H' ⟨_, G', keep_env E' hp hl, hs, fun i a f => hd i a f.2, hG⟩
  | exc x env' =>
    rw [z] at q
    intro σ' H0' H' E'
    obtain ⟨F', E'⟩ := E'
    exact q H0' H' ⟨_, keep_env E' hp hl⟩
  | bk env' => rw [z] at q; exact q.elim
  | ct env' => rw [z] at q; exact q.elim
  | bad => rw [z] at q; exact q.elim
end
end Mir
set_option Elab.async false
set_option linter.all false
set_option maxRecDepth 100000
set_option maxHeartbeats 4000000
/-! Mirror layer, part L: walks over a list or a tuple whichever it is, enumerate, zip; name = [..]; moves; in, not in; insert; sums of lists. -/
namespace Mir
open PySem PySem.Spec L2
variable {ρ : Type} [Rsc ρ]

/-! ### for x in e, e a list or a tuple -/
def iSeq (K : PySem.W.Frag) (tl : TE) : TI := fun σ H R => tl σ H fun x H1 => (∃ a, x = .ref a ∧ (∃ xs, SqL K H1 a xs) ∧ R (Itl K a) H1) ∨ ∃ a, x = .ref a ∧ (∃ xs, SqT K H1 a xs) ∧ R (Itt K a) H1
section
variable {X : Cx} {c : Cm} {e tg l a b : Expr} {ma mb : ME ρ} {pos : Pos}
theorem pi_seq {tl : TE} (hl : PE X l tl) : PI X tg l (iSeq X.K tl) := by
  refine ⟨fun pins s σ H R I h => ?_⟩
  refine thn (hl.run pins s σ H _ I h) fun v s1 ⟨x, H1, I1, r1, q1⟩ => ?_
  rcases q1 with ⟨a, e, ⟨xs, hq⟩, q⟩ | ⟨a, e, ⟨xs, hq⟩, q⟩
  · subst e
    cases r1
    obtain ⟨its, rv, p, hz⟩ := I1.list hq
    refine wpAny_pyIter_list p.isList ?_
    refine ⟨s1.heap.objs.size, [s1.heap.objs.size], _, _, H1, rfl, I1.kept (t' := s1.toks) fun b o e => Heap.get?_push_of_some _ e, turn_list a _, ⟨_, Heap.get?_push_size _ rfl, rfl, rfl⟩, fun b hb => ?_, q⟩
    have e : b = s1.heap.objs.size := by simpa using hb
    subst e
    exact I1.fpOk (Nat.le_refl _) (I1.hok.fresh (Nat.le_refl _))
  · subst e
    cases r1
    obtain ⟨its, rv, p, hz⟩ := I1.tuple hq
    refine wpAny_pyIter_tuple (show s1.heap.IsTuple a its.toArray from p) ?_
    refine ⟨s1.heap.objs.size, [s1.heap.objs.size], _, _, H1, rfl, I1.kept (t' := s1.toks) fun b o e => Heap.get?_push_of_some _ e, turn_tuple a _, ⟨_, Heap.get?_push_size _ rfl, rfl, rfl⟩, fun b hb => ?_, q⟩
    have e : b = s1.heap.objs.size := by simpa using hb
    subst e
    exact I1.fpOk (Nat.le_refl _) (I1.hok.fresh (Nat.le_refl _))
def srcSeq (m : ME ρ) : MA ρ := fun env => (toD m env).bind fun d env => match d with
  | .tup xs => .ok xs env
  | .lst xs => .ok xs env
  | .scr ns => .ok (ns.map .int) env
  | _ => .bad
theorem im_seq (h : EM X c e ma) : IM X c tg e (srcSeq ma) := by
  obtain ⟨t, h1, h2⟩ := h
  refine ⟨_, pi_seq h1, fun Γ H0 H σ env R E w => ?_⟩
  refine h2.toD Γ H0 H σ env _ E ((Wp.bind w).imp fun d env1 H1 H1' e1 q x E1 r => ?_)
  cases d with
  | tup xs =>
    obtain ⟨a, vs, rfl, g1, g2⟩ := r.of_tup
    exact .inr ⟨a, rfl, ⟨vs, SqT.up E1 g1⟩, q H1 H1' (Evl.Ex.refl _) _ E1 (walkd_tup g1 g2)⟩
  | lst xs =>
    obtain ⟨a, vs, rfl, g1, g2⟩ := r.of_lst
    exact .inl ⟨a, rfl, ⟨vs, SqL.of (E1.sub _ _ g1)⟩, q H1 H1' (Evl.Ex.refl _) _ E1 (walkd_list g1 g2)⟩
  | scr ns =>
    obtain ⟨a, rfl, g1⟩ := r.of_scr
    exact .inl ⟨a, rfl, ⟨_, Evl.ex_l E1.sub g1⟩, q H1 H1' (Evl.Ex.refl _) _ E1 (walkd_scr g1)⟩
  | _ => exact q.elim
/-- a list of one's own is handed on: the slot knows it no more -/
def mMove (i : Nat) : ME ρ := fun env => match env[i]? with
  | some (.lst xs) => .ok (.lst xs) (env.set i .no)
  | _ => .bad
theorem em_move (i : Nat) {x : Str} (hN : X.N[i]? = some x := by rfl) (hv : Vis X.env.scope x := by first | exact Or.inl rfl | exact Or.inr (Or.inl rfl) | exact Or.inr (Or.inr rfl)) (hd : (x == ("__debug__" : Str)) = false := by decide)
    (hcd : (x == ("__classdict__" : Str)) = false := by decide) : EM X c (.Name x pos) (mMove (ρ := ρ) i) := by
  refine ⟨_, pe_var (i := i) hN hv hd hcd, fun Γ H0 H σ env Q E w => ?_⟩
  unfold mMove at w
  cases z : env[i]? with
  | none => rw [z] at w; exact w.elim
  | some s =>
    rw [z] at w
    cases s with
    | lst xs =>
      obtain ⟨F, E⟩ := E
      have q := E.slot i _ z
      obtain ⟨p, vs, k1, k2, k3, k4⟩ := q
      have h1 : σ[i]? = some (some (.ref p)) := by
        cases y : σ[i]? with
        | none => rw [y] at k1; cases k1
        | some w => rw [y] at k1; exact congrArg some k1
      refine ⟨.ref p, h1, w H0 H (Evl.Ex.refl _) _ ⟨fun j a => j ≠ i ∧ F j a, F i, ?_, ⟨p, vs, rfl, k2, k3, k4⟩, fun j a f g => f.1 (E.dis j i a f.2 g), fun a g => (E.fp i a g).2⟩⟩
      refine ⟨by rw [List.length_set]; exact E.len, E.sub, E.base, E.absorb, E.frame, E.alive, E.pin, fun j t e => ?_, fun j k a f g => E.dis j k a f.2 g.2, fun j a f => by rw [List.length_set]; exact E.fp j a f.2⟩
      by_cases hj : j = i
      · subst hj
        have hl : j < env.length := by
          have := (List.getElem?_eq_some_iff.mp e).1
          rwa [List.length_set] at this
        rw [List.getElem?_set_self hl] at e
        have e' : SV.no = t := Option.some.inj e
        subst e'
        exact fun a f => f.1 rfl
      · rw [List.getElem?_set_ne (Ne.symm hj)] at e
        have q := E.slot j t e
        have z : (fun a => j ≠ i ∧ F j a) = F j := by funext a; simp [hj]
        show SlotOk X.K c.ca H0 H _ t (fun a => j ≠ i ∧ F j a)
        rw [z]; exact q
    | _ => exact w.elim
/-- name = [..] -/
theorem sm_setLc {elt tg iter : Expr} {ifs : List Expr} {scope : Scope} {own : List (Str × Nat)} {spos : Pos} {src : MA ρ} {g : D → Env ρ → Rs ρ Unit} {ss : List Nat} {tt : MT ρ} {me : ME ρ} {i : Nat} {y : Str} {py : Pos} (frz : Bool)
    (hp : i ∉ c.ps) (hc : X.calm = true) (hN : X.N.Nodup) (hi : IM X c tg iter src) (ok : BlkOk X.N X.env.scope scope own)
    (hg : ∀ (s : Shared) (H : Hp) (C : Addr) (cl : List (Str × Addr)) (fp : List Addr), GM (X.blk s H scope (compEnvC scope cl C X.env) fp) c.nox tg g ss)
    (ht : ∀ (s : Shared) (H : Hp) (C : Addr) (cl : List (Str × Addr)) (fp : List Addr), QM (X.blk s H scope (compEnvC scope cl C X.env) fp) c.nox ifs tt)
    (he : ∀ (s : Shared) (H : Hp) (C : Addr) (cl : List (Str × Addr)) (fp : List Addr), EM (X.blk s H scope (compEnvC scope cl C X.env) fp) c.nox elt me)
    (hss : ∀ j ∈ ss, j ∈ own.map (·.2)) (hps : ∀ i ∈ own.map (·.2), i ∉ c.ps) (hy : X.N[i]? = some y := by rfl) (hyl : X.env.scope.names.lookup y = some .local := by rfl)
    (hsw : swapsWith (.ListComp elt [⟨tg, iter, ifs, 0⟩] scope pos) (some (.Name y py)) spos.line X.env = pure true := by exact sw_true rfl rfl rfl (by decide +kernel)) (hs : ∀ x, foldedSetIterable iter X.env x = pure x := by intro _; rfl) :
    SM X c (.Assign [.Name y py] (.ListComp elt [⟨tg, iter, ifs, 0⟩] scope pos) spos) (sAsg i (if frz = true then mFrz (mComp src g tt me (own.map (·.2))) else mComp src g tt me (own.map (·.2)))) := by
  obtain ⟨wi, i1, i2⟩ := hi
  refine ⟨_, ps_setLc (g := tMG X.K c.nox g ss) (tt := tMT X.K c.nox tt) (te := tM X.K c.nox me) hc hN hy hyl hsw i1 ok (fun s H C cl fp => (hg s H C cl fp).pg) (fun s H C cl fp => ht s H C cl fp) (fun s H C cl fp => (he s H C cl fp).pe) hs, sim_asg hp ?_⟩
  cases frz with
  | true => exact sim_frz (sim_lc i2 hss hps)
  | false => exact sim_lc i2 hss hps
end
end Mir
set_option Elab.async false
set_option linter.all false
set_option maxRecDepth 100000
set_option maxHeartbeats 4000000
/-! Mirror layer, part M: enumerate over a list or a tuple. -/
namespace PySem
open Sem (wp)
open AutoSeq1 (wpAny_loadPart')
theorem meets_enumerate_newT (l : Addr) (items : Array Value) (n : Nat) (dct : Option Addr) (sl : Array (Option Value)) :
    Meets (Builtin.«enumerate.__new__» ⟨[.type "enumerate", .ref l], []⟩) (fun _ R s => s.heap.get? l = some { cls := .type "tuple", dict := dct, data := .seq items n, slots := sl } ∧
      R (.ok (.ret (.ref (s.heap.push { cls := .type "tuple_iterator", data := .fields #[.ref l, .int 0 0] }).objs.size)))
        { s with heap := (s.heap.push { cls := .type "tuple_iterator", data := .fields #[.ref l, .int 0 0] }).push { cls := .type "enumerate", data := .fields #[.none, .bool false, .ref s.heap.objs.size, rawInt 0, .none, .none] } }) :=
  .of_wp fun prog w A R s h => by
    obtain ⟨hp, g, d, tk, os⟩ := s; obtain ⟨hl, h⟩ := h
    have hsub := sub_enumerate
    have hL : Heap.IsTuple (Shared.heap ⟨hp, g, d, tk, os⟩) l items := ⟨_, hl, rfl, n, rfl⟩
    wp_walk using wpAny_loadPart' hl
    refine wpAny_stack_any fun st => wpAny_pure ?_
    split
    · rename_i c _ _ _ _ _
      cases (c == Value.type "enumerate")
      · wp_walk using wpAny_loadPart' hl, wpAny_pyIter_tuple hL
        exact ⟨_, rfl, h⟩
      · wp_walk using wpAny_loadPart' hl, wpAny_pyIter_tuple hL
        exact ⟨_, rfl, h⟩
    · wp_walk using wpAny_loadPart' hl, wpAny_pyIter_tuple hL
      exact ⟨_, rfl, h⟩
section
variable {prog : Program} {w : World} {A : Around} {E : Value → Shared → Prop} {s : Shared}
theorem call_enumerate_tuple {l : Addr} {items : Array Value} {Q : Value → Shared → Prop} (hL : s.heap.IsTuple l items)
    (h : ∀ h', IsEnum h' (s.heap.objs.size + 1) s.heap.objs.size 0 .none → h'.IsTupleIter s.heap.objs.size l 0 → h'.objs.size = s.heap.objs.size + 2 →
      (∀ b o, s.heap.get? b = some o → h'.get? b = some o) → Q (.ref (s.heap.objs.size + 1)) { s with heap := h' }) :
    wpAny (model prog w) A (call (.type "enumerate") [.ref l]) Q E s := by
  obtain ⟨⟨c, dct, dt, sl⟩, hl, hc, n, hd⟩ := hL
  replace hc : c = .type "tuple" := hc
  replace hd : dt = .seq items n := hd
  subst hc hd
  refine callType_new F.called_enumerate (by decide) (F.typeCall_enumerate_1 _) (F.newCall_enumerate_1 _) (fun obj => F.args_object_init_2 obj _) F.entry_enumerate_new
    (meets_enumerate_newT l items n dct sl) ⟨hl, ?_⟩
  have hz : (s.heap.push { cls := .type "tuple_iterator", data := .fields #[.ref l, .int 0 0] }).objs.size = s.heap.objs.size + 1 := Heap.size_push ..
  show _ ∧ _
  rw [hz]
  have he : IsEnum ((s.heap.push { cls := .type "tuple_iterator", data := .fields #[.ref l, .int 0 0] }).push
      { cls := .type "enumerate", data := .fields #[.none, .bool false, .ref s.heap.objs.size, rawInt 0, .none, .none] }) (s.heap.objs.size + 1) s.heap.objs.size 0 .none := by
    have := Heap.get?_push_size (s.heap.push { cls := .type "tuple_iterator", data := .fields #[.ref l, .int 0 0] })
      (o := { cls := .type "enumerate", data := .fields #[.none, .bool false, .ref s.heap.objs.size, rawInt 0, .none, .none] }) rfl
    rw [hz] at this; exact this
  refine ⟨⟨_, he, rfl⟩, h _ he ⟨_, Heap.get?_push_of_some _ (Heap.get?_push_size _ rfl), rfl, rfl⟩ (by rw [Heap.size_push, hz]) fun b o x => Heap.get?_push_of_some _ (Heap.get?_push_of_some _ x)⟩
end
end PySem

namespace Mir
open PySem PySem.Spec L2
variable {ρ : Type} [Rsc ρ]
/-- the tuple at a, each item in a new pair -/
def IteT (K : PySem.W.Frag) (a : Addr) : It :=
  ⟨fun i H => ∃ (xs : List V) (x : V), SqT K H a xs ∧ xs[i]? = some x, fun i H v H' => ∃ T x, v = .ref T ∧ H T = none ∧ H' = upd H T (.tup [.int (i : Nat), x]) ∧ ∀ xs, SqT K H a xs → xs[i]? = some x, fun i H => ∃ xs : List V, SqT K H a xs ∧ xs.length = i⟩
theorem turn_enumT {P : Program} {w : World} {K : PySem.W.Frag} {elts : List Expr} {kk : Nat} {tpos : Pos} (a e it : Addr) :
    Turn P w K (.Tuple elts kk tpos) (IteT K a) [e, it] e (fun i h => (∃ old, IsEnum h e it ((i : Nat) : Int) old) ∧ h.IsTupleIter it a i ∧ e ≠ it) where
  mem := by simp
  obj := fun i h st b hb => by
    obtain ⟨⟨old, he⟩, ⟨o, ho, hc, hd⟩, _⟩ := st
    have e' : b = e ∨ b = it := by simpa using hb
    rcases e' with z | z
    · rw [z]; exact ⟨_, he, fun v q => nomatch q⟩
    · rw [z]; exact ⟨o, ho, fun v q => by rw [hd] at q; cases q⟩
  keep := fun i h h' st k => let ⟨⟨old, he⟩, hi, hne⟩ := st; ⟨⟨old, k e (by simp) _ he⟩, hi.at fun o q => k it (by simp) o q, hne⟩
  item := by
    intro X hP hw hK hc i pins s σ H E I hf st hg
    subst hP hw hK
    obtain ⟨⟨old, he⟩, hit, hne⟩ := st
    obtain ⟨xs, x, hq, hx⟩ := hg
    obtain ⟨its, rv, p, hz⟩ := I.tuple hq
    obtain ⟨u, hu, ru⟩ := rv.get hx
    have hT : s.heap.IsTuple a its.toArray := p
    have hel : e < s.heap.objs.size := Heap.lt_size he
    have hil : it < s.heap.objs.size := by obtain ⟨_, q, _⟩ := hit; exact Heap.lt_size q
    have hai : a ≠ it := fun z => by
      obtain ⟨o1, h1, c1, _⟩ := hT
      obtain ⟨o2, h2, c2, _⟩ := hit
      rw [z, h2] at h1
      cases h1
      rw [c1] at c2
      injection c2 with c3
      exact absurd c3 (by decide)
    have hea : e ≠ a := fun z => by
      obtain ⟨o1, h1, c1, _⟩ := hT
      have h2 : s.heap.get? e = _ := he
      rw [z, h1] at h2
      cases h2
      injection c1 with c3
      exact absurd c3 (by decide)
    have hlt : i < its.toArray.size := by
      have := (List.getElem?_eq_some_iff.mp hu).1
      simpa using this
    refine wpAny_pyNext_enum_itemD (Draws.tuple (A := X.A.in1) (I.ok.hd hc) it a hai its.toArray) he ⟨hit, hT⟩ hlt hne (by simp [hne, hea]) fun y h' tk hy ho hst hTu hsz hk => ?_
    have ey : y = u := by
      have : its.toArray[i]? = some u := by simpa using hu
      rw [this] at hy
      exact (Option.some.inj hy).symm
    subst ey
    refine ⟨_, rfl, wpAny_letOwnedTupleGo_enum (s := { s with heap := h', toks := tk + 1 }) ho fun h'' he' sb => ?_⟩
    have hT2 : h''.get? s.heap.objs.size = some { cls := .type "tuple", data := .seq #[.int i tk, y] } := (sb.2 _ (Nat.ne_of_gt hel)).trans hTu
    have new : ObjOk X.prog X.w (upd H s.heap.objs.size (.tup [.int (i : Nat), x])) h'' s.heap.objs.size (.tup [.int (i : Nat), x]) :=
      ⟨by show 2 ≤ sizeLine; decide, [.int i tk, y], .cons ⟨_, rfl⟩ (.cons ru .nil), ⟨_, hT2, rfl, _, rfl⟩⟩
    have I1 : Inv X pins σ (upd H s.heap.objs.size (.tup [.int (i : Nat), x])) { s with heap := h'', toks := tk + 1 } :=
      I.turnedNew (ch := [e, it]) (fun b ob hb q => (sb.2 b (fun z => hb (by simp [z]))).trans (hk b ob (fun z => hb (by simp [z])) (fun z => hb (by simp [z])) q)) hf (Nat.le_refl _) new
    refine ⟨.ref s.heap.objs.size, _, I1, rfl, ⟨_, x, rfl, I.hok.fresh (Nat.le_refl _), rfl, fun ys hy => by rw [I.tuple_inj hy hq]; exact hx⟩, ⟨⟨y, ?_⟩, hst.1.at fun o q => (sb.2 it (Ne.symm hne)).trans q, hne⟩, fun b hb => ?_⟩
    · have e1 : ((i + 1 : Nat) : Int) = (i : Int) + 1 := by omega
      rw [e1]; exact he'
    · have hb' : b < s.heap.objs.size := by
        have e' : b = e ∨ b = it := by simpa using hb
        rcases e' with z | z
        · rw [z]; exact hel
        · rw [z]; exact hil
      rw [upd_ne (Nat.ne_of_lt hb')]
      exact (hf b hb).1
  done := by
    intro X hP hw hK hc i pins s σ H E I hf st hg
    subst hP hw hK
    obtain ⟨⟨old, he⟩, hit, hne⟩ := st
    obtain ⟨xs, hq, hx⟩ := hg
    obtain ⟨its, rv, p, hz⟩ := I.tuple hq
    obtain ⟨f0, f1, f2, f3, f4, f5⟩ := hf it (by simp)
    have hl := rv.length
    have hT : s.heap.IsTuple a its.toArray := p
    have hai : a ≠ it := fun z => by
      obtain ⟨o1, h1, c1, _⟩ := hT
      obtain ⟨o2, h2, c2, _⟩ := hit
      rw [z, h2] at h1
      cases h1
      rw [c1] at c2
      injection c2 with c3
      exact absurd c3 (by decide)
    have hi : its.toArray.size = i := by rw [List.size_toArray, ← hl]; exact hx
    subst hi
    exact wpAny_pyNext_enum_endD (Draws.tuple (A := X.A.in1) (I.ok.hd hc) it a hai its.toArray) he ⟨hit, hT⟩ fun h' eb => ⟨rfl, I.turned (t' := s.toks) (fun b o hb q => eb b o hb q) f0 f1 f3 f4 f5⟩
  self := fun A i s Q E st h => let ⟨⟨_, he⟩, _⟩ := st; wpAny_pyIter_enum he h
def iEnumA (K : PySem.W.Frag) (ta : TA) : TI := fun σ H R => ta σ H fun vs H1 => ∃ a xs, vs = [.ref a] ∧ ((SqL K H1 a xs ∧ R (Ite K a) H1) ∨ (SqT K H1 a xs ∧ R (IteT K a) H1))
theorem pi_enumA {X : Cx} {e : Expr} {ta : TA} {p pos tpos : Pos} {elts : List Expr} {kk : Nat} (hg : Gl X "enumerate") (hm : X.mg "enumerate" = none) (ha : PA X [e] ta) (hs : starEach [e] X.env = [(false, eval e X.env)] := by rfl) :
    PI X (.Tuple elts kk tpos) (.Call (.Name "enumerate" p) [e] [] pos) (iEnumA X.K ta) := by
  refine ⟨fun pins s σ H R I h => ?_⟩
  refine PyProof.Rows.Call_ (ld_blt I hg hm PyProof.Rows.boot_enumerate (PyProof.Rows.callWith_type1 (thn (ha.run pos pins s σ H _ I h) fun us s1 ⟨vs, H1, I1, r1, q1⟩ => ?_) hs rfl))
  obtain ⟨a, xs, ex, q1⟩ := q1
  subst ex
  cases r1 with
  | cons r rr =>
    cases rr
    cases r
    have fp : ∀ b ∈ [s1.heap.objs.size + 1, s1.heap.objs.size], FpOk X pins H1 b := fun b hb => by
      have e' : b = s1.heap.objs.size + 1 ∨ b = s1.heap.objs.size := by simpa using hb
      have hle : s1.heap.objs.size ≤ b := by
        rcases e' with z | z
        · rw [z]; exact Nat.le_add_right _ _
        · rw [z]; exact Nat.le_refl _
      exact I1.fpOk hle (I1.hok.fresh hle)
    rcases q1 with ⟨hq, q⟩ | ⟨hq, q⟩
    · obtain ⟨its, rv, p', hz⟩ := I1.list hq
      refine call_enumerate_list p'.isList fun h' he hit hsz hk => wpAny_pyIter_enum he ?_
      have I2 : Inv X pins σ H1 { s1 with heap := h' } := I1.kept (t' := s1.toks) hk
      exact ⟨s1.heap.objs.size + 1, [s1.heap.objs.size + 1, s1.heap.objs.size], _, _, H1, rfl, I2, turn_enum a (s1.heap.objs.size + 1) s1.heap.objs.size, ⟨⟨.none, he⟩, hit, Nat.succ_ne_self _⟩, fp, q⟩
    · obtain ⟨its, rv, p', hz⟩ := I1.tuple hq
      refine call_enumerate_tuple (show s1.heap.IsTuple a its.toArray from p') fun h' he hit hsz hk => wpAny_pyIter_enum he ?_
      have I2 : Inv X pins σ H1 { s1 with heap := h' } := I1.kept (t' := s1.toks) hk
      exact ⟨s1.heap.objs.size + 1, [s1.heap.objs.size + 1, s1.heap.objs.size], _, _, H1, rfl, I2, turn_enumT a (s1.heap.objs.size + 1) s1.heap.objs.size, ⟨⟨.none, he⟩, hit, Nat.succ_ne_self _⟩, fp, q⟩
def pairD (i : Nat) (d : D) : D := .tup [.int (i : Int), d]
def enumD (xs : List D) : List D := xs.mapIdx pairD
section
variable {K : PySem.W.Frag} {ca : Str → Addr} {H0 : Hp} {c : Cm} {X : Cx}
/-- a turn that gives a new pair -/
theorem pair_turn {Γ : Gam} {ps : List Nat} {H0' H : Hp} {σ : St} {env : Env ρ} {F : Nat → Addr → Prop} {T : Addr} {v w : V} {d1 d2 : D} (E : EnvF K ca ps Γ H0' H σ env F) (hT : H T = none) (r1 : Rep K ca H0' v d1) (r2 : Rep K ca H0' w d2) :
    ∃ H0'', Ex H0' H0'' ∧ EnvF K ca ps Γ H0'' (upd H T (.tup [v, w])) σ env F ∧ Rep K ca H0'' (.ref T) (.tup [d1, d2]) ∧ Ex H (upd H T (.tup [v, w])) ∧ ∀ a, H0' a = none → H a ≠ none → H0'' a = none := by
  have ex : Ex H0' (upd H0' T (.tup [v, w])) := ex_of_upd (E.free hT)
  refine ⟨_, ex, E.grow hT _, .tup (SqT.of upd_same) (.cons (r1.mono ex) (.cons (r2.mono ex) .nil)), ex_of_upd hT, fun a h1 h2 => ?_⟩
  have n : a ≠ T := fun z => h2 (by rw [z]; exact hT)
  rw [upd_ne n]; exact h1
theorem enumD_get {xs : List D} {i : Nat} {d : D} (h : (enumD xs)[i]? = some d) : ∃ x, xs[i]? = some x ∧ d = pairD i x := by
  unfold enumD at h
  rw [List.getElem?_mapIdx] at h
  cases z : xs[i]? with
  | none => rw [z] at h; cases h
  | some x => rw [z] at h; exact ⟨x, rfl, (Option.some.inj h).symm⟩
theorem walkd_enumL {p : Addr} {vs : List V} {xs : List D} (h : H0 p = some (.lst vs)) (r : RepA K ca H0 vs xs) : WalkD ρ K ca (Ite K p) H0 (enumD xs) where
  goes := fun H0' H i e1 e2 hi => by
    unfold enumD at hi
    rw [List.length_mapIdx] at hi
    obtain ⟨v, h1, _⟩ := r.get (List.getElem?_eq_getElem hi)
    exact ⟨vs, v, SqL.of (e2 _ _ (e1 _ _ h)), h1⟩
  stops := fun H0' H e1 e2 => ⟨vs, SqL.of (e2 _ _ (e1 _ _ h)), by unfold enumD; rw [List.length_mapIdx, r.length]; exact Nat.le_refl _⟩
  yields := fun Γ ps H0' H σ env F i d x H' e1 E hd hy => by
    obtain ⟨T, y, rfl, hT, rfl, hy⟩ := hy
    obtain ⟨d', hd', rfl⟩ := enumD_get hd
    obtain ⟨v, h1, h2⟩ := r.get hd'
    have := hy vs (SqL.of (E.sub _ _ (e1 _ _ h)))
    rw [h1] at this
    cases this
    exact pair_turn E hT (.int _) (h2.mono e1)
theorem walkd_enumT {p : Addr} {vs : List V} {xs : List D} (h : SqT K H0 p vs) (r : RepA K ca H0 vs xs) : WalkD ρ K ca (IteT K p) H0 (enumD xs) where
  goes := fun H0' H i e1 e2 hi => by
    unfold enumD at hi
    rw [List.length_mapIdx] at hi
    obtain ⟨v, h1, _⟩ := r.get (List.getElem?_eq_getElem hi)
    exact ⟨vs, v, Evl.ex_t e2 (Evl.ex_t e1 h), h1⟩
  stops := fun H0' H e1 e2 => ⟨vs, Evl.ex_t e2 (Evl.ex_t e1 h), by unfold enumD; rw [List.length_mapIdx, r.length]⟩
  yields := fun Γ ps H0' H σ env F i d x H' e1 E hd hy => by
    obtain ⟨T, y, rfl, hT, rfl, hy⟩ := hy
    obtain ⟨d', hd', rfl⟩ := enumD_get hd
    obtain ⟨v, h1, h2⟩ := r.get hd'
    have := hy vs (Evl.ex_t E.sub (Evl.ex_t e1 h))
    rw [h1] at this
    cases this
    exact pair_turn E hT (.int _) (h2.mono e1)
def srcEnum (m : ME ρ) : MA ρ := fun env => (toD m env).bind fun d env => match d with
  | .tup xs => .ok (enumD xs) env
  | .lst xs => .ok (enumD xs) env
  | _ => .bad
theorem im_enum {e : Expr} {ma : ME ρ} {elts : List Expr} {kk : Nat} {tpos p pos : Pos} (hm : X.mg "enumerate" = none) (h : EM X c e ma) (hg : Gl X "enumerate" := by rfl) (hs : starEach [e] X.env = [(false, eval e X.env)] := by rfl) : IM X c (.Tuple elts kk tpos) (.Call (.Name "enumerate" p) [e] [] pos) (srcEnum ma) := by
  obtain ⟨t, h1, h2⟩ := h
  refine ⟨_, pi_enumA hg hm (pa_cons h1 pa_nil hs) hs, fun Γ H0 H σ env R E w => ?_⟩
  refine h2.toD Γ H0 H σ env _ E ((Wp.bind w).imp fun d env1 H1 H1' e1 q x E1 r => ?_)
  cases d with
  | tup xs =>
    obtain ⟨a, vs, rfl, g1, g2⟩ := r.of_tup
    exact ⟨a, vs, rfl, .inr ⟨SqT.up E1 g1, q H1 H1' (Evl.Ex.refl _) _ E1 (walkd_enumT g1 g2)⟩⟩
  | lst xs =>
    obtain ⟨a, vs, rfl, g1, g2⟩ := r.of_lst
    exact ⟨a, vs, rfl, .inl ⟨SqL.of (E1.sub _ _ g1), q H1 H1' (Evl.Ex.refl _) _ E1 (walkd_enumL g1 g2)⟩⟩
  | _ => exact q.elim
end

/-! ### list(range(n)), tuple(range(n)) -/
section
variable {c : Cm} {X : Cx} {a b e : Expr} {ma mb : ME ρ} {pos p p2 pos2 : Pos}
def mRangeList (m : ME ρ) : ME ρ := fun env => (toD m env).bind fun d env => match d with
  | .int j => if 0 ≤ j ∧ j.toNat ≤ 16777216 then .ok (.lst (rangeD 0 j.toNat)) env else .bad
  | _ => .bad
def mRangeTuple (m : ME ρ) : ME ρ := fun env => (toD m env).bind fun d env => match d with
  | .int j => if 0 ≤ j ∧ j.toNat ≤ 16777216 then .ok (.dat (.tup (rangeD 0 j.toNat))) env else .bad
  | _ => .bad
theorem repA_range {K : PySem.W.Frag} {ca : Str → Addr} {H : Hp} (j : Int) : RepA K ca H (rgV 0 j) (rangeD 0 j.toNat) := by
  have : ∀ l : List Nat, RepA K ca H (l.map fun i => V.int (0 + (i : Nat))) (l.map fun i => D.int (0 + (i : Nat))) := fun l => by
    induction l with
    | nil => exact .nil
    | cons i r ih => exact .cons (.int _) ih
  unfold rgV rangeD
  rw [Int.sub_zero]
  exact this _
theorem em_range_list (hm : X.mg "list" = none) (hm2 : X.mg "range" = none) (h : EM X c a ma) (hc : X.calm = true := by rfl) (hg : Gl X "list" := by rfl) (hg2 : Gl X "range" := by rfl)
    (na : starEach [a] X.env = (false, eval a X.env) :: starEach [] X.env := by rfl) (na2 : starEach [.Call (.Name "range" p2) [a] [] pos2] X.env = (false, eval (.Call (.Name "range" p2) [a] [] pos2) X.env) :: starEach [] X.env := by rfl) :
    EM X c (.Call (.Name "list" p) [.Call (.Name "range" p2) [a] [] pos2] [] pos) (mRangeList ma) := by
  obtain ⟨t, h1, h2⟩ := h
  refine ⟨_, pe_listRg hc hg hm (prg_1 hg2 hm2 h1 na) na2, fun Γ H0 H σ env Q E w => ?_⟩
  refine h2.toD Γ H0 H σ env _ E ((Wp.bind w).imp fun d env1 H1 H1' e1 q x E1 r => ?_)
  cases d with
  | int j =>
    cases r.flat_int
    dsimp only at q
    by_cases z : 0 ≤ j ∧ j.toNat ≤ 16777216
    · rw [if_pos z] at q
      exact ⟨j, rfl, RgOk.of_le (by omega) (by omega) (by omega) z.1, fun l hl => q H1 _ (Evl.Ex.refl _) _ (E1.fresh hl (repA_range j))⟩
    · rw [if_neg z] at q; exact q.elim
  | _ => exact q.elim
theorem em_range_tuple (hm : X.mg "tuple" = none) (hm2 : X.mg "range" = none) (h : EM X c a ma) (hc : X.calm = true := by rfl) (hg : Gl X "tuple" := by rfl) (hg2 : Gl X "range" := by rfl)
    (na : starEach [a] X.env = (false, eval a X.env) :: starEach [] X.env := by rfl) (na2 : starEach [.Call (.Name "range" p2) [a] [] pos2] X.env = (false, eval (.Call (.Name "range" p2) [a] [] pos2) X.env) :: starEach [] X.env := by rfl) :
    EM X c (.Call (.Name "tuple" p) [.Call (.Name "range" p2) [a] [] pos2] [] pos) (mRangeTuple ma) := by
  obtain ⟨t, h1, h2⟩ := h
  refine ⟨_, pe_tupRg hc hg hm (prg_1 hg2 hm2 h1 na) na2, fun Γ H0 H σ env Q E w => ?_⟩
  refine h2.toD Γ H0 H σ env _ E ((Wp.bind w).imp fun d env1 H1 H1' e1 q x E1 r => ?_)
  cases d with
  | int j =>
    cases r.flat_int
    dsimp only at q
    by_cases z : 0 ≤ j ∧ j.toNat ≤ 16777216
    · rw [if_pos z] at q
      refine ⟨j, rfl, RgOk.of_le (by omega) (by omega) (by omega) z.1, fun l hl => ?_⟩
      obtain ⟨H2, e2, R⟩ := E1.newTup hl (repA_range (K := X.K) (ca := c.ca) j)
      exact q H2 _ e2 _ R
    · rw [if_neg z] at q; exact q.elim
  | _ => exact q.elim

/-! ### what the printed texts use -/
def sGhost (f : Env ρ → Env ρ) (m : MS ρ) : MS ρ := fun env => m (f env)
theorem bm_ghost' {f : Env ρ → Env ρ} {rest : List Stmt} {m : MS ρ} (hf : Ghost f) (h : BM X c rest m) : BM X c rest (sGhost f m) := show BM X c rest (fun env => m (f env)) from bm_ghost (f := f) (m := m) hf h
def mPeekT (i : Nat) (m : MT ρ) : MT ρ := fun env => match env[i]? with
  | some (.lst _) => (match m (peekEnv i env) with
    | .ok b _ => .ok b env
    | _ => .bad)
  | _ => .bad
theorem tm_peek (i : Nat) {m : MT ρ} (h : TM X c e m) : TM X c e (mPeekT i m) := by
  obtain ⟨t, h1, h2⟩ := h
  refine ⟨t, h1, fun Γ H0 H σ env Q E w => ?_⟩
  unfold mPeekT at w
  cases z : env[i]? with
  | none => rw [z] at w; exact w.elim
  | some s =>
    rw [z] at w
    cases s with
    | lst xs =>
      obtain ⟨Γ1, H01, E1, back⟩ := peek_start E z
      dsimp only at w
      cases z2 : m (peekEnv i env) with
      | ok b env1 =>
        rw [z2] at w
        refine h2 Γ1 H01 H σ (peekEnv i env) Q E1 ?_
        rw [z2]
        intro H0' H' e1 E2
        exact w H0 H' (Evl.Ex.refl _) (back H0' H' env1 e1 E2)
      | exc x env1 => rw [z2] at w; exact w.elim
      | bad => rw [z2] at w; exact w.elim
    | _ => exact w.elim
/-- an own exception is raised -/
def sRaise (x : Str) : MS ρ := fun env => .exc x env
structure ExcOk (K : PySem.W.Frag) (mg : Str → Option Value) (ca : Str → Addr) (x : Str) : Prop where
  exc : PySem.W.excIn K (ca x) [.type "ValueError", .type "Exception", .type "BaseException", .type "object"] "ValueError.__new__" = true
  g : mg x = some (.ref (ca x))
  kp : PySem.W.keepIn K (.ref (ca x)) = true
  b : PySem.W.subIn K (.ref (ca x)) (.type "BaseException") = some true
  t : PySem.W.typeIn K (.ref (ca x)) = some (.type "type")
theorem sm_raise {x m : Str} {j : Nat} {W : WX} {p3 : Pos} (tk : Takes X W) (T : ExcOk X.K X.mg c.ca x) (h : ∀ H' σ, c.E x H' → W (.ref (c.ca x)) none σ H') (hc : X.calm = true := by rfl) (hg : Gl X x := by rfl) (hdb : (x == ("__debug__" : Str)) = false := by decide) :
    SM X c (.Raise (some (.Call (.Name x p) [.Constant (.str m) j p2] [] pos)) none p3) (sRaise (ρ := ρ) x) := by
  refine ⟨_, ps_raise hc tk (pmk_own PySem.F.excBase_ValueError T.exc T.g T.kp (raises_own T.b T.t) hg hdb), fun Γ H0 H σ env D E w => ?_⟩
  exact h H σ (w σ H0 H E)
theorem nps {i : Nat} (h : c.ps.contains i = false) : i ∉ c.ps := fun z => by rw [List.contains_iff_mem.mpr z] at h; cases h
theorem nps2 {own : List (Str × Nat)} (h : ((own.map (·.2)).all fun i => !c.ps.contains i) = true) : ∀ i ∈ own.map (·.2), i ∉ c.ps := fun i hi => nps (by
  have := List.all_eq_true.mp h i hi
  simpa using this)
theorem sub2 {own : List (Str × Nat)} {ss : List Nat} (h : (ss.all fun i => (own.map (·.2)).contains i) = true) : ∀ j ∈ ss, j ∈ own.map (·.2) := fun j hj => List.contains_iff_mem.mp (List.all_eq_true.mp h j hj)
end
section
variable {P : Program} {w : World} {K : PySem.W.Frag} {mg : Str → Option Value} {base : Heap} {ca : Str → Addr}
/-- a def of which nothing is promised -/
theorem fn_bad {x qual : Str} {st : Stmt} {f : Addr} {fd : FuncData} {N ps : List Str} {k n : Nat} {io : List Nat} (F : Fun K x qual st f fd) (S : FnScope N ps (defScope st)) (hps : ps.length = n) :
    FnOk P w K mg base (L2.CX P w) (k + 1) f fd ps (spM (ρ := ρ) K ca io n (fun _ => .bad)) :=
  F.okX S (fun vs H Q E h => by rw [hps]; exact h.1) (fun cdv A outer s H vs Q E hr h => by obtain ⟨_, _, _, _, _, _, _, q⟩ := h; exact q.elim)
end
theorem em_globE {ρ : Type} [Rsc ρ] {X : Cx} {c : Cm} {x : Str} {pos : Pos} {d : D} (h : ∃ (u : Value) (v : V), X.mg x = some u ∧ RelV v u ∧ ∀ H, Rep X.K c.ca H v d) (hg : Gl X x := by rfl) (hd : (x == ("__debug__" : Str)) = false := by decide) : EM X c (.Name x pos) (mC (ρ := ρ) d) := by
  obtain ⟨u, v, h1, h2, h3⟩ := h
  exact em_glob h1 h2 h3 hg hd
end Mir
set_option Elab.async false
set_option linter.all false
set_option maxRecDepth 100000
set_option maxHeartbeats 4000000
/-! Mirror layer, part N: x in xs, sorted of ints, slices with a step, sum of lists. -/
namespace Mir
open PySem PySem.Spec L2
variable {ρ : Type} [Rsc ρ]

theorem room65 {k : Nat} {A : Around} (r : Room k A) : A.units + 65 < cLine := by have := r.un; omega

/-! ### x in xs -/
def rInX (K : PySem.W.Frag) : R2 := fun x y H Q => ∃ d ds, Dp K H x d ∧ (Dp K H y (.list ds) ∨ Dp K H y (.tuple ds)) ∧ SeqAt.shaped d = true ∧ SeqAt.shaped (.list ds) = true ∧ Q (.bl (ds.any fun z => PyData.eqv z d)) H
def rNotInX (K : PySem.W.Frag) : R2 := fun x y H Q => rInX K x y H fun v H' => match v with
  | .bl b => Q (.bl (!b)) H'
  | _ => False
section
variable {X : Cx}
theorem op_inX (hu : X.A.units + 65 < cLine) : OpR X (compareOp .In) (rInX X.K) := by
  intro pins s σ H x y v u Q I rx ry h
  obtain ⟨d, ds, hd, he, sd, se, q⟩ := h
  obtain ⟨as, r1⟩ := Dp.reads I d x v hd rx
  rcases he with he | he
  · obtain ⟨bs, r2⟩ := Dp.reads I (.list ds) y u he ry
    exact SeqAt.in_list_reads r2 r1 (SeqAt.canLay_of_shaped se) (SeqAt.canLay_of_shaped sd) (PyProof.Rows.room_in_shaped sd hu) ⟨.bl _, H, I, rfl, q⟩
  · obtain ⟨bs, r2⟩ := Dp.reads I (.tuple ds) y u he ry
    have hz : PyData.canLayAll0 ds = true := SeqAt.canLay_of_shaped se
    exact SeqAt.in_tuple_reads r2 r1 hz (SeqAt.canLay_of_shaped sd) (PyProof.Rows.room_in_shaped sd hu) ⟨.bl _, H, I, rfl, q⟩
theorem op_notInX (hu : X.A.units + 65 < cLine) : OpR X (compareOp .NotIn) (rNotInX X.K) := by
  intro pins s σ H x y v u Q I rx ry h
  obtain ⟨d, ds, hd, he, sd, se, q⟩ := h
  obtain ⟨as, r1⟩ := Dp.reads I d x v hd rx
  rcases he with he | he
  · obtain ⟨bs, r2⟩ := Dp.reads I (.list ds) y u he ry
    exact SeqAt.notIn_list_reads r2 r1 (SeqAt.canLay_of_shaped se) (SeqAt.canLay_of_shaped sd) (PyProof.Rows.room_in_shaped sd hu) ⟨.bl _, H, I, rfl, q⟩
  · obtain ⟨bs, r2⟩ := Dp.reads I (.tuple ds) y u he ry
    have hz : PyData.canLayAll0 ds = true := SeqAt.canLay_of_shaped se
    exact SeqAt.notIn_tuple_reads r2 r1 hz (SeqAt.canLay_of_shaped sd) (PyProof.Rows.room_in_shaped sd hu) ⟨.bl _, H, I, rfl, q⟩
end
/-- is x among the ys -/
def isIn (x : D) (ys : List D) : Option Bool := match toPy x, toPyA ys with
  | some p, some qs => if SeqAt.shaped p = true ∧ SeqAt.shaped (.list qs) = true then some (qs.any fun z => PyData.eqv z p) else none
  | _, _ => none
def elemsOf : D → Option (List D)
  | .tup ys => some ys
  | .lst ys => some ys
  | _ => none
def dIn (x y : D) : Option (SV ρ) := (elemsOf y).bind fun ys => (isIn x ys).map fun b => .dat (.bl b)
def dNotIn (x y : D) : Option (SV ρ) := (elemsOf y).bind fun ys => (isIn x ys).map fun b => .dat (.bl (!b))
theorem isIn_some {x : D} {ys : List D} {b : Bool} (e : isIn x ys = some b) : ∃ p qs, toPy x = some p ∧ toPyA ys = some qs ∧ SeqAt.shaped p = true ∧ SeqAt.shaped (.list qs) = true ∧ b = qs.any fun z => PyData.eqv z p := by
  unfold isIn at e
  split at e
  · rename_i p q h1 h2
    split at e
    · cases e; rename_i h; exact ⟨p, q, h1, h2, h.1, h.2, rfl⟩
    · cases e
  · cases e
section
variable {K : PySem.W.Frag} {c : Cm} {X : Cx} {a b : Expr} {ma mb : ME ρ} {pos : Pos}
theorem dp_elems {ca : Str → Addr} {H : Hp} {y : V} {d : D} {ys : List D} {qs : List PyData} (r : Rep K ca H y d) (e : elemsOf d = some ys) (h : toPyA ys = some qs) : Dp K H y (.list qs) ∨ Dp K H y (.tuple qs) := by
  unfold elemsOf at e
  split at e
  · cases e
    exact .inr (r.dp (by unfold toPy; rw [h]; rfl))
  · cases e
    exact .inl (r.dp (by unfold toPy; rw [h]; rfl))
  · cases e
theorem opm_in : OpM ρ K c (rInX K) dIn := by
  intro Γ H0 H σ env x y d1 d2 s Q E r1 r2 e q
  unfold dIn at e
  cases z1 : elemsOf d2 with
  | none => rw [z1] at e; cases e
  | some ys =>
    rw [z1] at e
    have e : ((isIn d1 ys).map fun b => SV.dat (D.bl b)) = some s := e
    cases z : isIn d1 ys with
    | none => rw [z] at e; cases e
    | some b =>
      rw [z] at e; cases e
      obtain ⟨p, qs, h1, h2, h3, h4, rfl⟩ := isIn_some z
      exact ⟨p, qs, (r1.mono E.sub).dp h1, dp_elems (r2.mono E.sub) z1 h2, h3, h4, q _ H0 H (Evl.Ex.refl _) (E.dat (.bl _))⟩
theorem opm_notIn : OpM ρ K c (rNotInX K) dNotIn := by
  intro Γ H0 H σ env x y d1 d2 s Q E r1 r2 e q
  unfold dNotIn at e
  cases z1 : elemsOf d2 with
  | none => rw [z1] at e; cases e
  | some ys =>
    rw [z1] at e
    have e : ((isIn d1 ys).map fun b => SV.dat (D.bl (!b))) = some s := e
    cases z : isIn d1 ys with
    | none => rw [z] at e; cases e
    | some b =>
      rw [z] at e; cases e
      obtain ⟨p, qs, h1, h2, h3, h4, rfl⟩ := isIn_some z
      exact ⟨p, qs, (r1.mono E.sub).dp h1, dp_elems (r2.mono E.sub) z1 h2, h3, h4, q _ H0 H (Evl.Ex.refl _) (E.dat (.bl _))⟩
theorem em_in (hu : X.A.units + 65 < cLine) (ha : EM X c a ma) (hb : EM X c b mb) (hm : behindInMarks .In b = false := by rfl) : EM X c (.Compare a [.In] [b] pos) (mOp dIn ma mb) := em_cmp (op_inX hu) opm_in ha hb hm
theorem tm_in (hu : X.A.units + 65 < cLine) (ha : EM X c a ma) (hb : EM X c b mb) (hm : behindInMarks .In b = false := by rfl) : TM X c (.Compare a [.In] [b] pos) (mTest (mOp dIn ma mb)) := tm_cmp (op_inX hu) opm_in ha hb hm
theorem em_notin (hu : X.A.units + 65 < cLine) (ha : EM X c a ma) (hb : EM X c b mb) (hm : behindInMarks .NotIn b = false := by rfl) : EM X c (.Compare a [.NotIn] [b] pos) (mOp dNotIn ma mb) := em_cmp (op_notInX hu) opm_notIn ha hb hm
theorem tm_notin (hu : X.A.units + 65 < cLine) (ha : EM X c a ma) (hb : EM X c b mb) (hm : behindInMarks .NotIn b = false := by rfl) : TM X c (.Compare a [.NotIn] [b] pos) (mTest (mOp dNotIn ma mb)) := tm_cmp (op_notInX hu) opm_notIn ha hb hm
end

/-! ### sorted of ints, of a list or of a tuple -/
section
open PyProof.Rows Builtin Calls
variable {prog : Program} {w : World} {A : Around} {E : Value → Shared → Prop} {s : Shared}
/-- what collect makes of a list's or of a tuple's object -/
theorem collect_sq {p : Addr} {T : String} {o : Obj} {n : Nat} {vs : List Value} {Q : List Value → Shared → Prop} (hT : T = "list" ∨ T = "tuple") (g : s.heap.get? p = some o) (gc : o.cls = .type T) (gd : o.data = .seq vs.toArray n) (gz : vs.length ≤ sizeLine)
    (h : Q vs { s with heap := (s.heap.push (seqObj "list" #[] 0)).update s.heap.objs.size (Obj.mapSeq (· ++ vs.toArray)) }) : wpAny (model prog w) A (collect (.ref p)) Q E s := by
  have gnew : ∀ h : Heap, (h.push (seqObj "list" #[] 0)).get? h.objs.size = some (seqObj "list" #[] 0) := fun h => Heap.get?_push_size _ rfl
  have g' : (s.heap.push (seqObj "list" #[] 0)).get? p = some o := Heap.get?_push_of_some _ g
  have hcond : ∀ f : Bool, (f || Value.type T == Value.type "list" || Value.type T == Value.type "tuple") = true := fun f => by
    rcases hT with e | e <;> subst e <;> cases f <;> rfl
  unfold collect
  refine wpAny_bind (wpAny_runValue (codeAny_builtin entry_proto_collect' ?_))
  refine wpAny_bind (wpAny_newList (wpAny_pure ⟨Code.quiet_builtin _ (by decide +kernel), codeAny_builtin entry_list_iadd' ?_⟩))
  have hty : ({ s with heap := s.heap.push (seqObj "list" #[] 0) } : Shared).TypeIs (.ref p) T := ⟨o, g', gc⟩
  change wpAny _ _ (List.listExtendWith (.ref s.heap.objs.size) (.ref p) (.ref s.heap.objs.size)) _ _ { s with heap := s.heap.push (seqObj "list" #[] 0) }
  unfold List.listExtendWith
  refine wpAny_bind (wpAny_typeOf hty ?_)
  rw [if_pos (hcond _)]
  refine wpAny_bind (listItems_at g' gd ?_)
  refine wpAny_bind (listItems_at (gnew _) rfl ?_)
  rw [if_neg (by simp)]
  refine wpAny_bind (listUpdate_at (gnew _) rfl ?_ (Nat.zero_le _) (by show (#[] ++ vs.toArray).size ≤ sizeLine + 1; rw [Array.size_append, List.size_toArray]; simp; omega))
  refine wpAny_pure ?_
  change wpAny _ _ (do
    let o ← load s.heap.objs.size
    match o.data with
    | .seq ys _ => pure ys.toList
    | _ => unsupported "internal:collect") _ _ { s with heap := (s.heap.push (seqObj "list" #[] 0)).update s.heap.objs.size (Obj.mapSeq (· ++ vs.toArray)) }
  refine wpAny_bind (wpAny_load (get?_update_seq (gnew _) _) ?_)
  have ee : ((#[] : Array Value) ++ vs.toArray).toList = vs := by simp
  have fin : Q ((#[] : Array Value) ++ vs.toArray).toList { s with heap := (s.heap.push (seqObj "list" #[] 0)).update s.heap.objs.size (Obj.mapSeq (· ++ vs.toArray)) } := by rw [ee]; exact h
  exact wpAny_pure fin

theorem sorted_sq {p : Addr} {T : String} {o : Obj} {n : Nat} {vs : List Value} {ns : List Int} {Q : Value → Shared → Prop} (hT : T = "list" ∨ T = "tuple") (g : s.heap.get? p = some o) (gc : o.cls = .type T) (gd : o.data = .seq vs.toArray n) (gz : vs.length ≤ sizeLine)
    (gi : IntsAre vs ns) (h : ∀ out : List Value, IntsAre out (out.map SrtO.iv) → (out.map SrtO.iv).Perm ns → (out.map SrtO.iv).Pairwise (· ≤ ·) → Q (.ref (s.heap.objs.size + 1)) { s with heap := sortedAll s.heap vs out.toArray }) :
    wpAny (model prog w) A (call (.builtin "sorted") [.ref p]) Q E s := by
  refine Calls.call_function_entry kind_sorted plain_sorted entry_sorted (args_sorted1 _) ?_
  unfold Builtin.«sorted»
  refine wpAny_bind (m := checkCount "sorted" 1 1 _) (wpAny_pure ?_)
  refine wpAny_bind (collect_sq hT g gc gd gz ?_)
  refine wpAny_bind (wpAny_newList ?_ gz)
  generalize hh : (s.heap.push (seqObj "list" #[] 0)).update s.heap.objs.size (Obj.mapSeq (· ++ vs.toArray)) = hm
  have em : hm.objs.size = s.heap.objs.size + 1 := by rw [← hh, Heap.size_update, size_push']
  have enew : (hm.push (seqObj "list" vs.toArray 0)).get? (s.heap.objs.size + 1) = some (seqObj "list" vs.toArray 0) := by
    rw [← em]; exact Heap.get?_push_size _ rfl
  change wpAny _ _ _ _ _ { s with heap := hm.push (seqObj "list" vs.toArray 0) }
  rw [em]
  refine wpAny_bind (wpAny_holding (wpAny_call_entry slot_list_sort ⟨_, enew, rfl⟩ entry_list_sort (SrtO.list_sort_ord SrtO.swo_int enew gz (fun h2 => SrtO.ints_sortable gi h2) fun out k1 k2 => ⟨_, rfl, ?_⟩) (args_list_sort _)))
  obtain ⟨z1, z2, z3⟩ := SrtO.ints_out gi k1 k2
  refine wpAny_pure ⟨_, rfl, ?_⟩
  have q := h out z1 z2 z3
  unfold sortedAll at q
  rw [hh] at q
  exact q
end
section
open PyProof.Rows
/-- sorted of a list or a tuple of ints -/
def rSortedX (K : PySem.W.Frag) : List V → Hp → VK → Prop := fun vs H Q => ∃ (a : Addr) (ns : List Int), vs = [V.ref a] ∧ (SqL K H a (ns.map V.int) ∨ SqT K H a (ns.map V.int)) ∧
  ∀ (ns' : List Int) (p : Addr), ns'.Perm ns → ns'.Pairwise (· ≤ ·) → H p = none → Q (.ref p) (upd H p (.lst (ns'.map V.int)))
theorem cr_sortedX {X : Cx} : CallR X (.builtin "sorted") (rSortedX X.K) := by
  intro pins s σ H vs us Q I r h
  obtain ⟨a, ns, rfl, hs, q⟩ := h
  rw [Vals.ref1 r]
  have fin : ∀ (its : List Value), (ns.map V.int).length ≤ sizeLine → ∀ out : List Value, IntsAre out (out.map SrtO.iv) → (out.map SrtO.iv).Perm ns → (out.map SrtO.iv).Pairwise (· ≤ ·) →
      EP X pins σ Q (.ref (s.heap.objs.size + 1)) { s with heap := sortedAll s.heap its out.toArray } := fun its hz out z1 z2 z3 => by
    obtain ⟨ep, he'⟩ := sortedAll_at s.heap its out.toArray
    have hlen : ((out.map SrtO.iv).map V.int).length ≤ sizeLine := by
      rw [List.length_map, z2.length_eq, ← List.length_map (f := V.int)]; exact hz
    exact ⟨.ref _, upd H (s.heap.objs.size + 1) (.lst ((out.map SrtO.iv).map V.int)), I.laid (t' := s.toks) (fun _ _ => sortedAll_old) (Nat.le_succ _) ⟨hlen, out, ep, vals_of_ints z1, he'⟩, rfl, q _ _ z2 z3 (I.hok.fresh (Nat.le_succ _))⟩
  rcases hs with hs | hs
  · obtain ⟨its, rv, hl, hz⟩ := I.list hs
    obtain ⟨o, g, gc, n, gd⟩ := hl.isList
    exact sorted_sq (.inl rfl) g gc gd (by rw [← rv.length]; exact hz) rv.ints (fin its hz)
  · obtain ⟨its, rv, hl, hz⟩ := I.tuple hs
    obtain ⟨o, g, gc, n, gd⟩ := id hl
    exact sorted_sq (.inr rfl) g gc gd (by rw [← rv.length]; exact hz) rv.ints (fin its hz)
end
def sortI (ns : List Int) : List Int := ns.mergeSort fun a b => decide (a ≤ b)
theorem sortI_perm (ns : List Int) : (sortI ns).Perm ns := List.mergeSort_perm _ _
theorem sortI_sorted (ns : List Int) : (sortI ns).Pairwise (· ≤ ·) := by
  have h := List.pairwise_mergeSort (le := fun a b : Int => decide (a ≤ b)) (fun a b c h1 h2 => by simp at *; omega) (fun a b => by simp; omega) ns
  exact h.imp fun h => by simpa using h
theorem sortI_uniq {a ns : List Int} (h1 : a.Perm ns) (h2 : a.Pairwise (· ≤ ·)) : a = sortI ns :=
  List.Perm.eq_of_pairwise (fun a b _ _ h1 h2 => Int.le_antisymm h1 h2) h2 (sortI_sorted ns) (h1.trans (sortI_perm ns).symm)
def dSorted : List D → Option (SV ρ)
  | [d] => ((elemsOf d).bind asInts).map fun ns => .lst ((sortI ns).map .int)
  | _ => none
section
variable {K : PySem.W.Frag} {c : Cm} {X : Cx}
theorem repA_intsV {ca : Str → Addr} {H : Hp} {xs : List V} {ds : List D} {ns : List Int} (r : RepA K ca H xs ds) (e : asInts ds = some ns) : xs = ns.map V.int := by
  rw [asInts_map e] at r
  clear e
  induction ns generalizing xs with
  | nil => cases r; rfl
  | cons n ns ih =>
    cases r with
    | cons h t => rw [h.flat_int, ih t]; rfl
theorem callm_sorted : CallM ρ K c (rSortedX K) dSorted := by
  intro Γ H0 H σ env vs ds s Q E r e q
  unfold dSorted at e
  split at e
  · rename_i d
    obtain ⟨v, rfl, r9⟩ := repA1 r
    cases z1 : elemsOf d with
    | none => rw [z1] at e; cases e
    | some xs =>
      cases z2 : asInts xs with
      | none => rw [z1] at e; simp only [Option.bind_some, z2] at e; cases e
      | some ns =>
        rw [z1] at e
        simp only [Option.bind_some, z2] at e
        cases e
        unfold elemsOf at z1
        split at z1
        · cases z1
          obtain ⟨a, ws, rfl, h1, g1⟩ := r9.of_tup
          rw [repA_intsV g1 z2] at h1
          refine ⟨a, ns, rfl, .inr (SqT.up E h1), fun ns' p k1 k2 k3 => ?_⟩
          rw [sortI_uniq k1 k2]
          exact q _ H0 _ (Evl.Ex.refl _) (E.fresh k3 (repA_ints _))
        · cases z1
          obtain ⟨a, ws, rfl, h1, g1⟩ := r9.of_lst
          rw [repA_intsV g1 z2] at h1
          refine ⟨a, ns, rfl, .inl (SqL.of (E.sub _ _ h1)), fun ns' p k1 k2 k3 => ?_⟩
          rw [sortI_uniq k1 k2]
          exact q _ H0 _ (Evl.Ex.refl _) (E.fresh k3 (repA_ints _))
        · cases z1
  · cases e
end

/-! ### slices of lists with a step -/
def stepD {α : Type} (xs : List α) (lo hi st : Option Int) : List α :=
  (sliceRange (sliceBounds lo hi st xs.length).1 (sliceBounds lo hi st xs.length).2.1 (sliceBounds lo hi st xs.length).2.2).filterMap fun i => xs[i]?
def rSt (K : PySem.W.Frag) : V → Option Int → Option Int → Option Int → Hp → VK → Prop := fun x lo hi st H Q => ∃ a xs, x = .ref a ∧ SqL K H a xs ∧ st ≠ some 0 ∧ ∀ p, H p = none → Q (.ref p) (upd H p (.lst (stepD xs lo hi st)))
def tSt (K : PySem.W.Frag) (te : TE) (tl th ts : TO) : TE := fun σ H Q => te σ H fun x H1 => tl σ H1 fun lo H2 => th σ H2 fun hi H3 => ts σ H3 fun st H4 => rSt K x lo hi st H4 Q
theorem vals_step {xs : List V} {us : List Value} (r : Vals xs us) : ∀ is : List Nat, Vals (is.filterMap fun i => xs[i]?) (is.filterMap fun i => us[i]?)
  | [] => .nil
  | i :: is => by
    cases z : xs[i]? with
    | none =>
      have z2 := r.none_of z
      rw [List.filterMap_cons_none z, List.filterMap_cons_none z2]
      exact vals_step r is
    | some v =>
      obtain ⟨u, z2, rv⟩ := r.get z
      rw [List.filterMap_cons_some z, List.filterMap_cons_some z2]
      exact .cons rv (vals_step r is)
theorem repA_step {K : PySem.W.Frag} {ca : Str → Addr} {H : Hp} {xs : List V} {us : List D} (r : RepA K ca H xs us) : ∀ is : List Nat, RepA K ca H (is.filterMap fun i => xs[i]?) (is.filterMap fun i => us[i]?)
  | [] => .nil
  | i :: is => by
    cases z : us[i]? with
    | none =>
      have z2 : xs[i]? = none := by
        rw [List.getElem?_eq_none_iff] at z ⊢
        rw [r.length]; exact z
      rw [List.filterMap_cons_none z, List.filterMap_cons_none z2]
      exact repA_step r is
    | some v =>
      obtain ⟨u, z2, rv⟩ := r.get z
      rw [List.filterMap_cons_some z, List.filterMap_cons_some z2]
      exact .cons rv (repA_step r is)
section
open PyProof.Rows
variable {X : Cx} {e st : Expr} {te : TE} {lo hi : Option Expr} {tl th ts : TO} {p3 pos : Pos} {c : Cm}
theorem pe_st (he : PE X e te) (hl : PO X lo tl) (hh : PO X hi th) (hs : PO X (some st) ts) : PE X (.Subscript e (.Slice lo hi (some st) p3) pos) (tSt X.K te tl th ts) := by
  refine ⟨fun pins s σ H Q I h => ?_⟩
  refine Subscript_ (thn (he.run pins s σ H _ I h) fun v s1 ⟨x, H1, I1, r1, q1⟩ => ?_)
  refine wpAny_Slice (thn (hl.run pins s1 σ H1 _ I1 q1) fun vl s2 ⟨l, H2, I2, pl, q2⟩ => thn (hh.run pins s2 σ H2 _ I2 q2) fun vu s3 ⟨u, H3, I3, pu, q3⟩ => thn (hs.run pins s3 σ H3 _ I3 q3) fun vs s4 ⟨k, H4, I4, pk, q4⟩ => ?_)
  obtain ⟨a, xs, rfl, hx, hk, q⟩ := q4
  cases r1
  have I5 : Inv X pins σ H4 { s4 with heap := s4.heap.push { cls := .type "slice", data := .fields #[vl, vu, vs] } } := I4.kept (t' := s4.toks) fun b ob q => Heap.get?_push_of_some _ q
  obtain ⟨its, r, ht, hz⟩ := I5.list hx
  have hlen := r.length
  change wpAny (model X.prog X.w) X.A (subscriptTail e (.Slice lo hi (some st) p3) (.ref a) (.ref s4.heap.objs.size)) (EP X pins σ Q) X.xe { s4 with heap := s4.heap.push { cls := .type "slice", data := .fields #[vl, vu, vs] } }
  refine tail_any (ops := [.ref a, .ref s4.heap.objs.size]) ht.isList.typeIs slot_list_getitem.lookup ?_ (by with_unfolding_all rfl)
  refine wpAny_getItem_list_slice ht.isList (Heap.IsSliceOf.new _ vl vu vs) pl pu pk hk ?_ (by rw [List.size_toArray]; omega)
  have es : slicePick its.toArray l u k = (stepD its l u k).toArray := by
    unfold slicePick stepD
    rw [List.size_toArray]
    congr 1
    congr 1
    funext i
    exact List.getElem?_toArray
  have ev : Vals (stepD xs l u k) (stepD its l u k) := by
    unfold stepD
    rw [hlen]
    exact vals_step r _
  have en : (stepD xs l u k).length ≤ sizeLine := by
    have := slicePick_size_le its.toArray l u k
    rw [es, List.size_toArray, List.size_toArray, ← ev.length, ← hlen] at this
    omega
  rw [es]
  exact ⟨.ref _, _, I5.laid (t' := s4.toks) (o := .lst (stepD xs l u k)) (fun b ob q => Heap.get?_push_of_some _ q) (Nat.le_refl _) ⟨en, _, 0, ev, Heap.get?_push_size _ rfl⟩, rfl, q _ (I5.hok.fresh (Nat.le_refl _))⟩
end
/-- xs[lo:hi:st] of a list -/
def dSt : D → Option Int → Option Int → Option Int → Option (SV ρ)
  | .lst xs, lo, hi, st => if st = some 0 then none else some (.lst (stepD xs lo hi st))
  | _, _, _, _ => none
def mSt (m : ME ρ) (lo hi st : Env ρ → Rs ρ (Option Int)) : ME ρ := fun env => (toD m env).bind fun d env => (lo env).bind fun l env => (hi env).bind fun u env => (st env).bind fun k env => match dSt d l u k with
  | some s => .ok s env
  | none => .bad
section
variable {X : Cx} {e st : Expr} {ma : ME ρ} {lo hi : Option Expr} {ml mh ms : Env ρ → Rs ρ (Option Int)} {p2 pos : Pos} {c : Cm}
theorem em_st (ha : EM X c e ma) (hl : OM X c lo ml) (hh : OM X c hi mh) (hs : OM X c (some st) ms) : EM X c (.Subscript e (.Slice lo hi (some st) p2) pos) (mSt ma ml mh ms) := by
  obtain ⟨ta, h1, h2⟩ := ha
  obtain ⟨tl, l1, l2⟩ := hl
  obtain ⟨th, u1, u2⟩ := hh
  obtain ⟨ts, k1, k2⟩ := hs
  refine ⟨_, pe_st h1 l1 u1 k1, fun Γ H0 H σ env Q E w => ?_⟩
  refine h2.toD Γ H0 H σ env _ E ((Wp.bind w).imp fun d1 env1 H1 H1' e1 q1 x E1 r1 => ?_)
  refine l2 Γ H1 H1' σ env1 _ E1 ((Wp.bind q1).imp fun l env2 H2 H2' e2 q2 E2 => ?_)
  refine u2 Γ H2 H2' σ env2 _ E2 ((Wp.bind q2).imp fun u env3 H3 H3' e3 q3 E3 => ?_)
  refine k2 Γ H3 H3' σ env3 _ E3 ((Wp.bind q3).imp fun k env4 H4 H4' e4 q4 E4 => ?_)
  have r := r1.mono (e2.trans (e3.trans e4))
  cases z : dSt (ρ := ρ) d1 l u k with
  | none => rw [z] at q4; exact q4.elim
  | some s =>
    rw [z] at q4
    unfold dSt at z
    split at z
    · split at z
      · cases z
      · rename_i hk
        cases z
        obtain ⟨a, xs, rfl, g1, g2⟩ := r.of_lst
        refine ⟨a, xs, rfl, SqL.of (E4.sub _ _ g1), hk, fun p hp => q4 H4 _ (Evl.Ex.refl _) _ (E4.fresh hp ?_)⟩
        unfold stepD
        rw [g2.length]
        exact repA_step g2 _
    · cases z
end
end Mir
set_option Elab.async false
set_option linter.all false
set_option maxRecDepth 100000
set_option maxHeartbeats 4000000
/-! Mirror layer, part O: sum(lists, []). -/
namespace Mir
open PySem PySem.Spec L2
variable {ρ : Type} [Rsc ρ]
section
open PyProof.Rows Builtin Calls
variable {prog : Program} {w : World} {A : Around} {E : Value → Shared → Prop} {s : Shared}
theorem cat_lst {l b : Addr} {vs ws : List Value} {Q : Value → Shared → Prop} (hl : s.heap.IsList l vs.toArray) (hb : s.heap.IsList b ws.toArray) (hz : vs.length + ws.length ≤ sizeLine)
    (h : Q (.ref s.heap.objs.size) { s with heap := s.heap.push { cls := .type "list", data := .seq (vs ++ ws).toArray } }) : wpAny (model prog w) A (binaryOp .Add (.ref l) (.ref b)) Q E s := by
  obtain ⟨⟨c1, d1, dt1, s1⟩, g1, k1, n1, e1⟩ := id hl
  obtain ⟨⟨c2, d2, dt2, s2⟩, g2, k2, n2, e2⟩ := id hb
  dsimp only at k1 e1 k2 e2
  subst k1 e1 k2 e2
  have ee : vs.toArray ++ ws.toArray = (vs ++ ws).toArray := by simp
  rw [← ee] at h
  exact concat_meets ⟨_, g1, rfl⟩ ⟨_, g2, rfl⟩ noFill_list_add seq_list_add PySem.F.slot_list_add PySem.F.entry_list_add (PySem.F.args_list_add_2 _ _) (list_addW l b vs.toArray ws.toArray n1 n2 d1 d2 s1 s2 (by simpa using hz)) ⟨g1, g2, h⟩

theorem loop_lists {h₀ : Heap} {I S l : Addr} {items : Array Value} {vss : List (List Value)} {R : Result → Shared → Prop} (hh : A.handled = none) (hI : h₀.objs.size ≤ I) (hS : h₀.objs.size ≤ S) (hIS : I ≠ S) (hl : h₀.IsList l items)
    (hn : items.size = vss.length) (hv : ∀ (i : Nat) v ws, items[i]? = some v → vss[i]? = some ws → ∃ b, v = .ref b ∧ h₀.IsList b ws.toArray) (hz : vss.flatten.length ≤ sizeLine) :
    ∀ (k i : Nat) (s : Shared) (t : Addr) (c : Nat), items.size - i = k → i ≤ items.size → (∀ b o, h₀.get? b = some o → s.heap.get? b = some o) → s.heap.IsListIter I l i →
    s.heap.get? S = some { cls := .type "list", dict := none, data := .seq #[.ref t] c, slots := #[] } → s.heap.IsList t (vss.take i).flatten.toArray → (i = 0 ∨ h₀.objs.size ≤ t ∧ s.heap.get? t = some { cls := .type "list", data := .seq (vss.take i).flatten.toArray }) → t ≠ I → t ≠ S →
    (∀ h' tk t', (∀ b o, h₀.get? b = some o → h'.get? b = some o) → h'.IsList t' vss.flatten.toArray → (items.size = 0 ∨ h₀.objs.size ≤ t' ∧ h'.get? t' = some { cls := .type "list", data := .seq vss.flatten.toArray }) → R (.ok (.ret (.ref t'))) { s with heap := h', toks := tk }) →
    codeAny (model prog w) A (.builtin "sum.loop" ⟨[.ref I, .ref S, rawInt 2, rawInt 0], []⟩) R s := by
  have hlt : ∀ {b : Addr} {o : Obj}, h₀.get? b = some o → b ≠ I ∧ b ≠ S := fun q => ⟨Nat.ne_of_lt (Nat.lt_of_lt_of_le (Heap.lt_size q) hI), Nat.ne_of_lt (Nat.lt_of_lt_of_le (Heap.lt_size q) hS)⟩
  intro k
  induction k with
  | zero =>
    intro i s t c hk hi kp hit hSo hto ht tI tS hR
    have hin : i = items.size := by omega
    refine codeAny_builtin PySem.F.entry_sum_loop ?_
    rw [Around.under_plainId PySem.F.plain_sum_loop _]
    change wpAny _ A.in1 (seqItems? (.ref S) >>= _) _ _ s
    refine wpAny_bind (wpAny_seqItems hSo rfl ?_)
    change wpAny _ A.in1 (tryCatch (pyNext (.ref I)) _ >>= _) _ _ s
    refine wpAny_bind (wpAny_tryCatch (wpAny_pyNext_list_end hh hit (hl.at fun o q => kp l o q) (by simp [hin]) fun h' he => ?_))
    have e : vss.take i = vss := List.take_of_length_le (by omega)
    refine wpAny_pure (hR h' s.toks t (fun b o q => he b o (hlt q).1 (kp b o q)) ?_ ?_)
    · rw [← e]
      exact hto.at fun o q => he t o tI q
    · rcases ht with z | z
      · exact .inl (by omega)
      · rw [e] at z
        exact .inr ⟨z.1, he t _ tI z.2⟩
  | succ k ih =>
    intro i s t c hk hi kp hit hSo hto ht tI tS hR
    have hli : i < items.size := by omega
    obtain ⟨b, hb, hbl⟩ := hv i _ _ (Array.getElem?_eq_getElem hli) (List.getElem?_eq_getElem (by omega))
    refine codeAny_builtin PySem.F.entry_sum_loop ?_
    rw [Around.under_plainId PySem.F.plain_sum_loop _]
    change wpAny _ A.in1 (seqItems? (.ref S) >>= _) _ _ s
    refine wpAny_bind (wpAny_seqItems hSo rfl ?_)
    change wpAny _ A.in1 (tryCatch (pyNext (.ref I)) _ >>= _) _ _ s
    refine wpAny_bind (wpAny_tryCatch (wpAny_pyNext_list_item hit (hl.at fun o q => kp l o q) (Array.getElem?_eq_getElem hli) fun h1 hit1 same => ?_))
    rw [hb]
    have kp1 : ∀ b o, h₀.get? b = some o → h1.get? b = some o := fun b o q => same.extBut b o (hlt q).1 (kp b o q)
    have hto1 : h1.IsList t (vss.take i).flatten.toArray := hto.at fun o q => same.extBut t o tI q
    have hS1 : h1.get? S = some { cls := .type "list", dict := none, data := .seq #[.ref t] c, slots := #[] } := same.extBut S _ (Ne.symm hIS) hSo
    have hcat : (vss.take i).flatten ++ vss[i]'(by omega) = (vss.take (i + 1)).flatten := by
      rw [List.take_succ_eq_append_getElem (by omega), List.flatten_append]; simp
    have hlen : (vss.take (i + 1)).flatten.length ≤ vss.flatten.length := by
      conv => rhs; rw [← List.take_append_drop (i + 1) vss, List.flatten_append, List.length_append]
      omega
    change wpAny _ A.in1 ((holding [Value.ref b] (binaryOp .Add (.ref t) (.ref b))).attempt >>= _) _ _ _
    refine wpAny_bind (wpAny_attempt (wpAny_holding (cat_lst (s := { s with heap := h1 }) hto1 (hbl.at fun o q => kp1 b o q) (by rw [← List.length_append, hcat]; omega) ?_)))
    rw [hcat]
    generalize hb2 : h1.push { cls := .type "list", data := .seq (vss.take (i + 1)).flatten.toArray } = h2
    have up : ∀ b o, h1.get? b = some o → h2.get? b = some o := fun b o q => by rw [← hb2]; exact Heap.get?_push_of_some _ q
    have hnew : h2.get? h1.objs.size = some { cls := .type "list", data := .seq (vss.take (i + 1)).flatten.toArray } := by rw [← hb2]; exact Heap.get?_push_size _ rfl
    have hS2 := up _ _ hS1
    change wpAny _ A.in1 (updateSeq S (fun _ => #[.ref h1.objs.size]) >>= _) _ _ { s with heap := h2 }
    refine wpAny_bind ?_
    refine wpAny_updateSeq hS2 rfl ?_
    refine wpAny_bind (wpAny_letGo ?_)
    refine wpAny_bind ?_
    have hS3 := Heap.get?_update_self (Obj.mapSeq fun _ => #[Value.ref h1.objs.size]) hS2 rfl
    have hSlt : S < h1.objs.size := Heap.lt_size hS1
    have hIlt : I < h1.objs.size := by obtain ⟨_, q, _⟩ := hit1; exact Heap.lt_size q
    have h0lt : h₀.objs.size ≤ h1.objs.size := Nat.le_trans hS (Nat.le_of_lt hSlt)
    have oth : ∀ (h : Heap) b o, b ≠ S → h.get? b = some o → (h.update S (Obj.mapSeq fun _ => #[Value.ref h1.objs.size])).get? b = some o := fun h b o ne q => (Heap.get?_update_other _ _ (Ne.symm ne)).trans q
    refine wpAny_updateSeq hS3 rfl (wpAny_pure ⟨plainId_quiet PySem.F.plain_sum_loop _, ih (i + 1) _ h1.objs.size _ (by omega) hli (fun b o q => oth _ _ _ (hlt q).2 (oth _ _ _ (hlt q).2 (up _ _ (kp1 b o q)))) (hit1.at fun o q => oth _ _ _ hIS (oth _ _ _ hIS (up _ _ q)))
      (Heap.get?_update_self _ hS3 rfl) ⟨_, oth _ _ _ (Nat.ne_of_gt hSlt) (oth _ _ _ (Nat.ne_of_gt hSlt) hnew), rfl, _, rfl⟩ (.inr ⟨h0lt, oth _ _ _ (Nat.ne_of_gt hSlt) (oth _ _ _ (Nat.ne_of_gt hSlt) hnew)⟩) (Nat.ne_of_gt hIlt) (Nat.ne_of_gt hSlt) hR⟩)

theorem args_sum2 (a b : Value) : argsOk "sum" ⟨[a, b], []⟩ := by unfold argsOk; kernel_rfl
theorem sum_lists {l b0 : Addr} {items : Array Value} {vss : List (List Value)} {Q : Value → Shared → Prop} (hh : A.handled = none) (hl : s.heap.IsList l items) (hb0 : s.heap.IsList b0 ([] : List Value).toArray)
    (hn : items.size = vss.length) (h0 : 0 < items.size) (hv : ∀ (i : Nat) v ws, items[i]? = some v → vss[i]? = some ws → ∃ b, v = .ref b ∧ s.heap.IsList b ws.toArray) (hz : vss.flatten.length ≤ sizeLine)
    (h : ∀ h' tk t', (∀ b o, s.heap.get? b = some o → h'.get? b = some o) → s.heap.objs.size ≤ t' → h'.get? t' = some { cls := .type "list", data := .seq vss.flatten.toArray } → Q (.ref t') { s with heap := h', toks := tk }) :
    wpAny (model prog w) A (call (.builtin "sum") [.ref l, .ref b0]) Q E s := by
  refine call_function_tree PySem.F.kind_sum PySem.F.plain_sum PySem.F.entry_sum (args_sum2 _ _) ?_
  unfold Builtin.«sum»
  simp only [List.length_cons, List.length_nil]
  rw [if_neg (by decide)]
  refine wpAny_bind (wpAny_of_eq (show Builtin.Builtins.bindParams "sum" ["start"] 0 ⟨[.ref b0], []⟩ = pure [some (.ref b0)] from rfl) ?_)
  refine wpAny_bind (wpAny_pyIter_list hl ?_)
  generalize hb2 : s.heap.push { cls := .type "list_iterator", data := .fields #[.ref l, .int 0 0] } = h1
  have up1 : ∀ b o, s.heap.get? b = some o → h1.get? b = some o := fun b o q => by rw [← hb2]; exact Heap.get?_push_of_some _ q
  have hit : h1.IsListIter s.heap.objs.size l 0 := by rw [← hb2]; exact ⟨_, Heap.get?_push_size _ rfl, rfl, rfl⟩
  have hsz : h1.objs.size = s.heap.objs.size + 1 := by rw [← hb2]; exact Heap.size_push _ _
  have ht : ({ s with heap := h1 } : Shared).TypeIs (.ref b0) "list" := (hb0.at fun o q => up1 b0 o q).typeIs
  refine wpAny_bind (wpAny_pure ?_)
  simp only [List.forIn_cons, List.forIn_nil]
  refine wpAny_bind (wpAny_bind (wpAny_bind (wpAny_isInstance (T := "list") (b := false) ht PySem.F.sub_list_str ?_)))
  simp only [Bool.false_eq_true, if_false]
  refine wpAny_pure (wpAny_bind (wpAny_bind (wpAny_isInstance (T := "list") (b := false) ht PySem.F.sub_list_bytes ?_)))
  simp only [Bool.false_eq_true, if_false]
  refine wpAny_pure (wpAny_bind (wpAny_bind (wpAny_isInstance (T := "list") (b := false) ht PySem.F.sub_list_bytearray ?_)))
  simp only [Bool.false_eq_true, if_false]
  refine wpAny_pure (wpAny_pure ?_)
  refine wpAny_bind (wpAny_newObj_type ?_)
  have hb0lt : b0 < s.heap.objs.size := by obtain ⟨_, q, _⟩ := hb0; exact Heap.lt_size q
  refine wpAny_pure ⟨plainId_quiet PySem.F.plain_sum_loop _, loop_lists (h₀ := s.heap) (I := s.heap.objs.size) (S := h1.objs.size) (A := A) hh (Nat.le_refl _) (hsz ▸ Nat.le_succ _) (hsz ▸ Nat.ne_of_lt (Nat.lt_succ_self _)) hl hn hv hz _ 0 _ b0 0 rfl (Nat.zero_le _)
    (fun b o q => Heap.get?_push_of_some _ (up1 b o q)) (hit.at fun o q => Heap.get?_push_of_some _ q) (Heap.get?_push_size _ rfl) ((hb0.at fun o q => up1 b0 o q).at fun o q => Heap.get?_push_of_some _ q) (.inl rfl) (Nat.ne_of_lt hb0lt) (hsz ▸ Nat.ne_of_lt (Nat.lt_succ_of_lt hb0lt)) fun h' tk t' k1 k2 k3 => ?_⟩
  have k4 := k3.resolve_left (Nat.ne_of_gt h0)
  exact h h' tk t' k1 k4.1 k4.2
end
/-- sum(xss, []), xss some lists -/
def rSum2 (K : PySem.W.Frag) : List V → Hp → VK → Prop := fun vs H Q => ∃ (a b : Addr) (xs : List V) (yss : List (List V)), vs = [.ref a, .ref b] ∧ SqL K H a xs ∧ H b = some (.lst []) ∧ xs ≠ [] ∧ xs.length = yss.length ∧
  (∀ (i : Nat) x ys, xs[i]? = some x → yss[i]? = some ys → ∃ p, x = .ref p ∧ SqL K H p ys) ∧ yss.flatten.length ≤ sizeLine ∧ ∀ p, H p = none → Q (.ref p) (upd H p (.lst yss.flatten))
theorem vals2 {x y : V} {us : List Value} (r : Vals [x, y] us) : ∃ u v, us = [u, v] ∧ RelV x u ∧ RelV y v := by
  cases r with
  | cons h t =>
    cases t with
    | cons h' t' => cases t'; exact ⟨_, _, rfl, h, h'⟩
theorem cr_sum2 {X : Cx} (hc : X.calm = true) : CallR X (.builtin "sum") (rSum2 X.K) := by
  intro pins s σ H vs us Q I r h
  obtain ⟨a, b, xs, yss, rfl, hs, hb, hne, hlen, hv, hz, q⟩ := h
  obtain ⟨u, v, rfl, r1, r2⟩ := vals2 r
  cases r1
  cases r2
  obtain ⟨its, rv, hl, _⟩ := I.list hs
  have hvl := rv.length
  obtain ⟨its0, rv0, hl0, _⟩ := I.list (SqL.of (K := X.K) hb)
  have e0 : its0 = [] := List.length_eq_zero_iff.mp rv0.length.symm
  rw [e0] at hl0
  have key : ∀ (xs : List V) (its : List Value) (yss : List (List V)), Vals xs its → xs.length = yss.length → (∀ (i : Nat) x ys, xs[i]? = some x → yss[i]? = some ys → ∃ p, x = .ref p ∧ SqL X.K H p ys) →
      ∃ vss : List (List Value), vss.length = its.length ∧ Vals yss.flatten vss.flatten ∧ ∀ (i : Nat) v ws, its[i]? = some v → vss[i]? = some ws → ∃ b, v = .ref b ∧ s.heap.IsList b ws.toArray := by
    intro xs
    induction xs with
    | nil =>
      intro its yss rv hl hv
      cases rv
      cases yss with
      | nil => exact ⟨[], rfl, .nil, fun i v ws h1 => by simp at h1⟩
      | cons y t => simp at hl
    | cons x xs ih =>
      intro its yss rv hl hv
      cases rv with
      | cons hx rt =>
        rename_i u us
        cases yss with
        | nil => simp at hl
        | cons ys yt =>
          obtain ⟨vss, k1, k2, k3⟩ := ih us yt rt (by simpa using hl) fun i x z h1 h2 => hv (i + 1) x z (by simpa using h1) (by simpa using h2)
          obtain ⟨p, rfl, hp⟩ := hv 0 x ys rfl rfl
          cases hx
          obtain ⟨ws, rw1, hw, _⟩ := I.list hp
          refine ⟨ws :: vss, by simp [k1], by rw [List.flatten_cons, List.flatten_cons]; exact rw1.append k2, fun i v z h1 h2 => ?_⟩
          cases i with
          | zero => simp at h1 h2; subst h1 h2; exact ⟨p, rfl, hw.isList⟩
          | succ i => exact k3 i v z (by simpa using h1) (by simpa using h2)
  obtain ⟨vss, k1, k2, k3⟩ := key xs its yss rv hlen hv
  have hpos : 0 < xs.length := List.length_pos_iff.mpr hne
  refine sum_lists (items := its.toArray) (vss := vss) (I.ok.hd hc) hl.isList hl0.isList (by rw [List.size_toArray, k1]) (by rw [List.size_toArray]; omega) (fun i v ws h1 h2 => k3 i v ws (by simpa using h1) h2) (by rw [← k2.length]; exact hz) fun h' tk t' kp hnew hob => ?_
  exact ⟨.ref t', upd H t' (.lst yss.flatten), I.laid (t' := tk) kp hnew ⟨hz, vss.flatten, 0, k2, hob⟩, rfl, q _ (I.hok.fresh hnew)⟩
def asLsts : List D → Option (List (List D))
  | [] => some []
  | .lst xs :: r => (asLsts r).map (xs :: ·)
  | _ => none
def dSum2 : List D → Option (SV ρ)
  | [.lst xs, .lst []] => if xs = [] then none else (asLsts xs).bind fun yss => if yss.flatten.length ≤ sizeLine then some (.lst yss.flatten) else none
  | _ => none
theorem asLsts_get : ∀ {xs : List D} {yss : List (List D)}, asLsts xs = some yss → xs = yss.map D.lst
  | [], _, e => by cases e; rfl
  | x :: xs, yss, e => by
    cases x <;> unfold asLsts at e <;> try cases e
    rename_i ys
    cases z : asLsts xs with
    | none => rw [z] at e; cases e
    | some zs => rw [z] at e; cases e; rw [asLsts_get z]; rfl
theorem rep_lsts {K : PySem.W.Frag} {ca : Str → Addr} {H : Hp} : ∀ {yss : List (List D)} {xs : List V}, RepA K ca H xs (yss.map D.lst) → ∃ vss : List (List V), xs.length = vss.length ∧ RepA K ca H vss.flatten yss.flatten ∧
    ∀ (i : Nat) x ys, xs[i]? = some x → vss[i]? = some ys → ∃ p, x = .ref p ∧ H p = some (.lst ys)
  | [], _, .nil => ⟨[], rfl, .nil, fun i x ys h => by simp at h⟩
  | ys :: yss, _, .cons h r => by
    obtain ⟨vss, k1, k2, k3⟩ := rep_lsts r
    obtain ⟨a, ws, rfl, h1, g1⟩ := h.of_lst
    refine ⟨ws :: vss, by simp [k1], by rw [List.flatten_cons, List.flatten_cons]; exact g1.append k2, fun i x z e1 e2 => ?_⟩
    cases i with
    | zero => simp at e1 e2; subst e1 e2; exact ⟨a, rfl, h1⟩
    | succ i => exact k3 i x z (by simpa using e1) (by simpa using e2)
section
variable {K : PySem.W.Frag} {c : Cm}
theorem callm_sum2 : CallM ρ K c (rSum2 K) dSum2 := by
  intro Γ H0 H σ env vs ds s Q E r e q
  unfold dSum2 at e
  split at e
  · rename_i xs
    split at e
    · cases e
    · rename_i hne
      cases z : asLsts xs with
      | none => rw [z] at e; cases e
      | some yss =>
        rw [z] at e
        simp only [Option.bind_some] at e
        split at e
        · rename_i hz
          cases e
          obtain ⟨v, u, rfl, r1, r2⟩ := repA2 r
          obtain ⟨a, ws, rfl, h1, g1⟩ := r1.of_lst
          obtain ⟨b, us, rfl, h2, g2⟩ := r2.of_lst
          cases g2
          rw [asLsts_get z] at g1
          obtain ⟨vss, k1, k2, k3⟩ := rep_lsts g1
          refine ⟨a, b, ws, vss, rfl, SqL.of (E.sub _ _ h1), E.sub _ _ h2, fun e => ?_, k1, fun i x ys e1 e2 => ?_, by rw [k2.length]; exact hz, fun p hp => q _ H0 _ (Evl.Ex.refl _) (E.fresh hp k2)⟩
          · have := g1.length
            rw [e] at this
            have h0 : yss = [] := by cases yss with | nil => rfl | cons y t => simp at this
            rw [asLsts_get z, h0] at hne
            exact hne rfl
          · obtain ⟨p, e3, e4⟩ := k3 i x ys e1 e2
            exact ⟨p, e3, SqL.of (E.sub _ _ e4)⟩
        · cases e
  · cases e
end
end Mir
set_option Elab.async false
set_option linter.all false
set_option maxRecDepth 100000
set_option maxHeartbeats 4000000
/-! Mirror layer, part P: dicts of one's own, keys nested tuples. -/
namespace Mir
open PySem PySem.Spec L2
variable {ρ : Type} [Rsc ρ]

/-! ### keys -/
mutual
def nk : D → Option NestedKey
  | .non => some .none
  | .bl b => some (.num (if b = true then 1 else 0))
  | .int i => some (.num i)
  | .str s => some (.text s)
  | .tup xs => (nkA xs).map .tup
  | _ => none
def nkA : List D → Option (List NestedKey)
  | [] => some []
  | x :: xs => (nk x).bind fun k => (nkA xs).map (k :: ·)
end
section
variable {X : Cx} {pins : List (Addr × Obj)} {σ : St} {H : Hp} {s : Shared} {ca : Str → Addr}
mutual
theorem rep_nested (I : Inv X pins σ H s) : ∀ (d : D) (v : V) (u : Value) (k : NestedKey), Rep X.K ca H v d → nk d = some k → RelV v u → NestedIs s.heap k u
  | .non, _, _, _, r, e, q => by
    cases r
    cases (show some NestedKey.none = some _ from e)
    cases q
    exact .none
  | .bl b, _, _, _, r, e, q => by
    cases r
    cases (show some (NestedKey.num _) = some _ from e)
    cases q
    exact .bool rfl
  | .int i, _, _, _, r, e, q => by
    cases r
    cases (show some (NestedKey.num _) = some _ from e)
    obtain ⟨t, rfl⟩ := q
    exact .int _ _
  | .str x, _, _, _, r, e, q => by
    cases r
    cases (show some (NestedKey.text _) = some _ from e)
    obtain ⟨t, rfl⟩ := q
    exact .text _ _
  | .tup xs, _, _, _, .tup h g, e, q => by
    cases q
    have e2 : (nkA xs).map NestedKey.tup = some _ := e
    cases z : nkA xs with
    | none => rw [z] at e2; cases e2
    | some ks =>
      rw [z] at e2
      cases e2
      obtain ⟨its, rv, ht, _⟩ := I.tuple h
      obtain ⟨o, h1, h2, n, h3⟩ := ht
      exact .tup h1 h2 h3 (rep_nestedA I xs _ its ks g z rv)
  | .lst _, _, _, _, _, e, _ => by cases e
  | .dct _, _, _, _, _, e, _ => by cases e
  | .ins _ _, _, _, _, _, e, _ => by cases e
  | .scr _, _, _, _, _, e, _ => by cases e
theorem rep_nestedA (I : Inv X pins σ H s) : ∀ (ds : List D) (vs : List V) (us : List Value) (ks : List NestedKey), RepA X.K ca H vs ds → nkA ds = some ks → Vals vs us → NestedAll s.heap ks us
  | [], _, _, _, .nil, e, .nil => by cases (show some [] = some _ from e); exact .nil
  | d :: ds, _, _, _, .cons h g, e, .cons q t => by
    have e2 : ((nk d).bind fun k => (nkA ds).map (k :: ·)) = some _ := e
    cases z1 : nk d with
    | none => rw [z1] at e2; cases e2
    | some k =>
      cases z2 : nkA ds with
      | none => rw [z1, z2] at e2; cases e2
      | some ks =>
        rw [z1, z2] at e2
        cases e2
        exact .cons (rep_nested I d _ _ k h z1 q) (rep_nestedA I ds _ _ ks g z2 t)
end
end

/-! ### the dict as a resource -/
abbrev Ent := NestedKey × Addr × Value
def entW (w : World) (x : Ent) : DictEntry := ⟨x.1.hash w, .ref x.2.1, x.2.2⟩
def rawO (p : Addr) (o : Obj) : HO := .ext fun h => h.get? p = some o
/-- at p stands a dict with the pairs kvs, in the order of insertion -/
def TkAt (w : World) (K : PySem.W.Frag) (ca : Str → Addr) (kvs : List (D × D)) (H0 H : Hp) (p : Addr) : Prop :=
  ∃ (o : Obj) (es : Array DictEntry) (ep : Nat) (xs : List Ent) (vs : List V), H p = some (rawO p o) ∧ o.ExactDict ∧ o.data = .dict es ep ∧ (p == sysModules) = false ∧ es.toList = xs.map (entW w) ∧ (xs.map (·.1)).Nodup ∧ xs.length ≤ sizeLine ∧
    RepA K ca H0 (xs.map fun x => V.ref x.2.1) (kvs.map (·.1)) ∧ nkA (kvs.map (·.1)) = some (xs.map (·.1)) ∧ (∀ x ∈ xs, x.1.depth ≤ 8) ∧ RepA K ca H0 vs (kvs.map (·.2)) ∧ Vals vs (xs.map (·.2.2))
theorem TkAt.mono {w : World} {K : PySem.W.Frag} {ca : Str → Addr} {kvs : List (D × D)} {H0 H H0' H' : Hp} {p : Addr} (h : TkAt w K ca kvs H0 H p) (e : Ex H0 H0') (k : H' p = H p) : TkAt w K ca kvs H0' H' p := by
  obtain ⟨o, es, ep, xs, vs, h1, h2, h3, h4, h5, h6, h7, h8, h9, h10, h11, h12⟩ := h
  exact ⟨o, es, ep, xs, vs, k.trans h1, h2, h3, h4, h5, h6, h7, h8.mono e, h9, h10, h11.mono e, h12⟩
inductive DR (w : World) where
  | tk (kvs : List (D × D))
instance (w : World) : Rsc (DR w) where
  at_ := fun K ca r H0 H v F => match r with
    | .tk kvs => ∃ p, v = .ref p ∧ (∀ a, F a ↔ a = p) ∧ TkAt w K ca kvs H0 H p
  mono := fun {K ca r H0 H0' H H' v F} h e k => by
    cases r with
    | tk kvs =>
      obtain ⟨p, h1, h2, h3⟩ := h
      exact ⟨p, h1, h2, h3.mono e (k p ((h2 p).mpr rfl))⟩
/-- resources among which are dicts -/
class HasD (ρ : Type) [Rsc ρ] where
  w : World
  tk : List (D × D) → ρ
  un : ρ → Option (List (D × D))
  un_tk : ∀ kvs, un (tk kvs) = some kvs
  tk_un : ∀ r kvs, un r = some kvs → r = tk kvs
  at_tk : ∀ {K ca kvs H0 H v F}, Rsc.at_ K ca (tk kvs) H0 H v F ↔ ∃ p, v = .ref p ∧ (∀ a, F a ↔ a = p) ∧ TkAt w K ca kvs H0 H p
instance (w : World) : HasD (DR w) where
  w := w
  tk := .tk
  un := fun r => match r with
    | .tk kvs => some kvs
  un_tk := fun _ => rfl
  tk_un := fun r kvs e => by
    cases r with
    | tk l => cases e; rfl
  at_tk := Iff.rfl

/-! ### what a change of a slot's own thing does -/
section
variable {K : PySem.W.Frag} {ca : Str → Addr} {ps : List Nat} {Γ : Gam} {H0 H : Hp} {σ : St} {env : Env ρ} {p : Addr} {o : HO} {i : Nat} {s s' : SV ρ} {v : V}
theorem EnvOk.mutO (E : EnvOk K ca ps Γ H0 H σ env) (h : env[i]? = some s) (hs : ∀ F, SlotOk K ca H0 H (σ[i]?.join) s F → (∀ a, F a ↔ a = p) ∧ SlotOk K ca H0 (upd H p o) (σ[i]?.join) s' F) : EnvOk K ca ps Γ H0 (upd H p o) σ (env.set i s') := by
  obtain ⟨F, E⟩ := E
  obtain ⟨g, hs'⟩ := hs (F i) (E.slot i _ h)
  have hl : i < env.length := (List.getElem?_eq_some_iff.mp h).1
  obtain ⟨_, h0, h1, h2⟩ := E.fp i p ((g p).mpr rfl)
  have np : ∀ j a, j ≠ i → F j a → a ≠ p := fun j a n f z => n (E.dis j i a f ((g a).mpr z))
  refine ⟨F, by rw [List.length_set]; exact E.len, fun a u e => ?_, E.base, E.absorb, fun a u g1 g2 => ?_, fun a q => ?_, E.pin, fun j t e => ?_, E.dis, fun j a f => ?_⟩
  · have n : a ≠ p := fun z => by rw [z, h0] at e; cases e
    rw [upd_ne n]; exact E.sub a u e
  · have n : a ≠ p := fun z => by
      subst z
      rcases h2 with h2 | h2
      · rw [h2] at g1; cases g1
      · exact g2 h2
    rw [upd_ne n]; exact E.frame a u g1 g2
  · have n : a ≠ p := fun z => by rw [z, upd_same] at q; cases q
    rw [upd_ne n] at q; exact E.alive a q
  · by_cases hj : j = i
    · subst hj
      rw [List.getElem?_set_self hl] at e
      have e' : s' = t := Option.some.inj e
      subst e'
      exact hs'
    · rw [List.getElem?_set_ne (Ne.symm hj)] at e
      exact (E.slot j t e).mono (Evl.Ex.refl _) fun a f => upd_ne (np j a hj f)
  · rw [List.length_set]
    by_cases hj : j = i
    · subst hj
      have z : a = p := (g a).mp f
      subst z
      exact ⟨hl, h0, (by rw [upd_same]; intro z; cases z), h2⟩
    · rw [upd_ne (np j a hj f)]
      exact E.fp j a f
/-- a new thing of one's own -/
theorem EnvOk.freshO (E : EnvOk K ca ps Γ H0 H σ env) (hp : H p = none) (hs : SlotOk K ca H0 (upd H p o) (some v) s (fun a => a = p)) : ResOk K ca ps Γ H0 (upd H p o) σ env v s := by
  obtain ⟨F, E⟩ := E
  refine ⟨F, fun a => a = p, E.newo hp _, hs, fun i a f z => E.np hp i a f z, fun a z => ?_⟩
  subst z
  exact ⟨E.free hp, (by rw [upd_same]; intro z; cases z), .inl (E.alive _ hp)⟩
/-- the slot that holds a dict -/
theorem EnvOk.tk [HasD ρ] {kvs : List (D × D)} (E : EnvOk K ca ps Γ H0 H σ env) (h : env[i]? = some (.res (HasD.tk kvs))) : ∃ p, σ[i]? = some (some (.ref p)) ∧ TkAt (HasD.w ρ) K ca kvs H0 H p ∧
    ∀ {o : HO} {kvs' : List (D × D)}, TkAt (HasD.w ρ) K ca kvs' H0 (upd H p o) p → EnvOk K ca ps Γ H0 (upd H p o) σ (env.set i (.res (HasD.tk kvs'))) := by
  have E' := E
  obtain ⟨F, E⟩ := E
  obtain ⟨v, e, q⟩ := E.slot i _ h
  obtain ⟨p, rfl, h1, h2⟩ := HasD.at_tk.mp q
  refine ⟨p, ?_, h2, fun {o kvs'} h3 => E'.mutO h fun F2 q2 => ?_⟩
  · cases z : σ[i]? with
    | none => rw [z] at e; cases e
    | some w => rw [z] at e; exact congrArg some e
  · obtain ⟨v2, e2, q2⟩ := q2
    obtain ⟨p2, rfl, h12, h22⟩ := HasD.at_tk.mp q2
    rw [e] at e2
    cases e2
    exact ⟨h12, _, e, HasD.at_tk.mpr ⟨p, rfl, h12, h3⟩⟩
end

/-! ### looking up, storing -/
def tkGet (kvs : List (D × D)) (k : NestedKey) : Option D := (kvs.find? fun p => decide (nk p.1 = some k)).map (·.2)
def tkPut (kvs : List (D × D)) (kd : D) (k : NestedKey) (vd : D) : List (D × D) := if (tkGet kvs k).isSome then kvs.map (fun p => if nk p.1 = some k then (p.1, vd) else p) else kvs ++ [(kd, vd)]
/-- a tuple that is a key -/
def tkKey : D → Option NestedKey
  | .tup xs => (nk (.tup xs)).bind fun k => if k.depth ≤ 8 then some k else none
  | _ => none
theorem tkKey_some {d : D} {k : NestedKey} (h : tkKey d = some k) : ∃ xs, d = .tup xs ∧ nk d = some k ∧ k.depth ≤ 8 := by
  unfold tkKey at h
  split at h
  · rename_i xs
    cases z : nk (.tup xs) with
    | none => rw [z] at h; cases h
    | some k' =>
      rw [z] at h
      simp only [Option.bind_some] at h
      split at h
      · rename_i hd
        cases h
        exact ⟨xs, rfl, rfl, hd⟩
      · cases h
  · cases h
theorem nkA_cons {x : D} {xs : List D} {ks : List NestedKey} (h : nkA (x :: xs) = some ks) : ∃ k r, ks = k :: r ∧ nk x = some k ∧ nkA xs = some r := by
  have e2 : ((nk x).bind fun k => (nkA xs).map (k :: ·)) = some ks := h
  cases z1 : nk x with
  | none => rw [z1] at e2; cases e2
  | some k =>
    cases z2 : nkA xs with
    | none => rw [z1, z2] at e2; cases e2
    | some r => rw [z1, z2] at e2; cases e2; exact ⟨k, r, rfl, rfl, rfl⟩
theorem nkA_append : ∀ {xs ys : List D} {ks ls : List NestedKey}, nkA xs = some ks → nkA ys = some ls → nkA (xs ++ ys) = some (ks ++ ls)
  | [], _, _, _, e, h => by cases (show some [] = some _ from e); exact h
  | x :: xs, ys, ks, ls, e, h => by
    obtain ⟨k, r, rfl, h1, h2⟩ := nkA_cons e
    show ((nk x).bind fun k => (nkA (xs ++ ys)).map (k :: ·)) = _
    rw [h1, nkA_append h2 h]
    rfl
section
variable {K : PySem.W.Frag} {ca : Str → Addr} {H : Hp}
/-- entries and data, side by side -/
inductive TkR (K : PySem.W.Frag) (ca : Str → Addr) (H : Hp) : List Ent → List (D × D) → Prop
  | nil : TkR K ca H [] []
  | cons {k : NestedKey} {a : Addr} {u : Value} {v : V} {kd vd : D} {xs : List Ent} {kvs : List (D × D)} : Rep K ca H (.ref a) kd → nk kd = some k → k.depth ≤ 8 → RelV v u → Rep K ca H v vd → TkR K ca H xs kvs → TkR K ca H ((k, a, u) :: xs) ((kd, vd) :: kvs)
theorem TkR.of : ∀ {xs : List Ent} {kvs : List (D × D)} {vs : List V}, RepA K ca H (xs.map fun x => V.ref x.2.1) (kvs.map (·.1)) → nkA (kvs.map (·.1)) = some (xs.map (·.1)) → (∀ x ∈ xs, x.1.depth ≤ 8) → RepA K ca H vs (kvs.map (·.2)) → Vals vs (xs.map (·.2.2)) → TkR K ca H xs kvs
  | [], [], _, _, _, _, _, _ => .nil
  | [], _ :: _, _, h, _, _, _, _ => by cases h
  | _ :: _, [], _, h, _, _, _, _ => by cases h
  | (k, a, u) :: xs, (kd, vd) :: kvs, _, .cons h1 h2, e, hd, .cons g1 g2, .cons q1 q2 => by
    obtain ⟨k', r, e1, e2, e3⟩ := nkA_cons e
    cases e1
    exact .cons h1 e2 (hd _ List.mem_cons_self) q1 g1 (TkR.of h2 e3 (fun x hx => hd x (List.mem_cons_of_mem _ hx)) g2 q2)
theorem TkR.out {xs : List Ent} {kvs : List (D × D)} (h : TkR K ca H xs kvs) : RepA K ca H (xs.map fun x => V.ref x.2.1) (kvs.map (·.1)) ∧ nkA (kvs.map (·.1)) = some (xs.map (·.1)) ∧ (∀ x ∈ xs, x.1.depth ≤ 8) ∧ ∃ vs, RepA K ca H vs (kvs.map (·.2)) ∧ Vals vs (xs.map (·.2.2)) := by
  induction h with
  | nil => exact ⟨.nil, rfl, fun x h => (by cases h), [], .nil, .nil⟩
  | cons h1 h2 h3 h4 h5 _ ih =>
    obtain ⟨k1, k2, k3, vs, k4, k5⟩ := ih
    refine ⟨.cons h1 k1, ?_, fun x hx => ?_, _ :: vs, .cons h5 k4, .cons h4 k5⟩
    · rw [List.map_cons, List.map_cons]
      show ((nk _).bind fun k => (nkA _).map (k :: ·)) = _
      rw [h2, k2]
      rfl
    · rcases List.mem_cons.mp hx with rfl | hx
      · exact h3
      · exact k3 x hx
theorem TkR.mono {H' : Hp} (e : Ex H H') {xs : List Ent} {kvs : List (D × D)} (h : TkR K ca H xs kvs) : TkR K ca H' xs kvs := by
  induction h with
  | nil => exact .nil
  | cons h1 h2 h3 h4 h5 _ ih => exact .cons (h1.mono e) h2 h3 h4 (h5.mono e) ih
theorem TkR.length {xs : List Ent} {kvs : List (D × D)} (h : TkR K ca H xs kvs) : xs.length = kvs.length := by
  induction h with
  | nil => rfl
  | cons _ _ _ _ _ _ ih => simp [ih]
theorem TkR.append {xs ys : List Ent} {kvs lvs : List (D × D)} (h : TkR K ca H xs kvs) (g : TkR K ca H ys lvs) : TkR K ca H (xs ++ ys) (kvs ++ lvs) := by
  induction h with
  | nil => exact g
  | cons h1 h2 h3 h4 h5 _ ih => exact .cons h1 h2 h3 h4 h5 ih
theorem TkR.look {xs : List Ent} {kvs : List (D × D)} (h : TkR K ca H xs kvs) (k : NestedKey) : (tkGet kvs k = none ∧ atKey xs k = none) ∨ ∃ vd p v, tkGet kvs k = some vd ∧ atKey xs k = some p ∧ RelV v p.2 ∧ Rep K ca H v vd := by
  induction h with
  | nil => exact .inl ⟨rfl, rfl⟩
  | cons h1 h2 h3 h4 h5 _ ih =>
    rename_i k' a u v kd vd xs kvs _
    by_cases hk : k' = k
    · subst hk
      refine .inr ⟨vd, (a, u), v, ?_, ?_, h4, h5⟩
      · unfold tkGet; rw [List.find?_cons_of_pos (by simp [h2])]; rfl
      · unfold atKey; rw [List.find?_cons_of_pos (by simp)]; rfl
    · have e1 : tkGet ((kd, vd) :: kvs) k = tkGet kvs k := by unfold tkGet; rw [List.find?_cons_of_neg (by simp [h2, hk])]
      have e2 : atKey ((k', a, u) :: xs) k = atKey xs k := by unfold atKey; rw [List.find?_cons_of_neg (by simp [hk])]
      rw [e1, e2]
      exact ih
theorem TkR.put {xs : List Ent} {kvs : List (D × D)} (h : TkR K ca H xs kvs) {k : NestedKey} {a : Addr} {u : Value} {v : V} {kd vd : D} (h1 : Rep K ca H (.ref a) kd) (h2 : nk kd = some k) (h3 : k.depth ≤ 8) (h4 : RelV v u) (h5 : Rep K ca H v vd) : TkR K ca H (storedH xs k a u) (tkPut kvs kd k vd) := by
  rcases h.look k with ⟨e1, e2⟩ | ⟨d, p, w, e1, e2, _⟩
  · rw [storedH_new e2]
    unfold tkPut
    rw [e1]
    exact h.append (.cons h1 h2 h3 h4 h5 .nil)
  · rw [storedH_old e2]
    unfold tkPut
    rw [e1, if_pos (show (some d).isSome = true from rfl)]
    clear e1 e2
    induction h with
    | nil => exact .nil
    | cons g1 g2 g3 g4 g5 _ ih =>
      rename_i k' a' u' v' kd' vd' xs kvs _
      rw [List.map_cons, List.map_cons]
      by_cases hk : k' = k
      · subst hk
        have e : putAt k' u (k', a', u') = (k', a', u) := by unfold putAt; rw [if_pos rfl]
        rw [e, if_pos g2]
        exact .cons g1 g2 g3 h4 h5 ih
      · have e : putAt k u (k', a', u') = (k', a', u') := by unfold putAt; rw [if_neg hk]
        rw [e, if_neg (by rw [g2]; intro z; cases z; exact hk rfl)]
        exact .cons g1 g2 g3 g4 g5 ih
theorem atKey_mem {xs : List Ent} {k : NestedKey} {a : Addr} {u : Value} (hn : (xs.map (·.1)).Nodup) : ((storedH xs k a u).map (·.1)).Nodup := by
  unfold storedH
  split
  · have e := keys_map_putAt xs k u
    rw [e]; exact hn
  · rename_i h
    have hk : atKey xs k = none := by simpa using h
    rw [List.map_append, List.nodup_append]
    refine ⟨hn, by simp, fun x hx y hy => ?_⟩
    simp at hy
    subst hy
    rintro rfl
    obtain ⟨e, he, he2⟩ := List.mem_map.mp hx
    unfold atKey at hk
    rw [Option.map_eq_none_iff, List.find?_eq_none] at hk
    exact hk e he (by simpa using he2)
theorem storedH_len (xs : List Ent) (k : NestedKey) (a : Addr) (u : Value) : (storedH xs k a u).length ≤ xs.length + 1 := by
  unfold storedH
  split
  · rw [List.length_map]; omega
  · rw [List.length_append]; simp
end
theorem tk_pairs {w : World} {K : PySem.W.Frag} {ca : Str → Addr} {kvs : List (D × D)} {H0 H : Hp} {p : Addr} (h : TkAt w K ca kvs H0 H p) : ∃ (o : Obj) (es : Array DictEntry) (ep : Nat) (xs : List Ent), H p = some (rawO p o) ∧ o.ExactDict ∧ o.data = .dict es ep ∧ (p == sysModules) = false ∧
    es.toList = xs.map (entW w) ∧ (xs.map (·.1)).Nodup ∧ xs.length ≤ sizeLine ∧ TkR K ca H0 xs kvs := by
  obtain ⟨o, es, ep, xs, vs, h1, h2, h3, h4, h5, h6, h7, h8, h9, h10, h11, h12⟩ := h
  exact ⟨o, es, ep, xs, h1, h2, h3, h4, h5, h6, h7, TkR.of h8 h9 h10 h11 h12⟩
theorem tk_mk {w : World} {K : PySem.W.Frag} {ca : Str → Addr} {kvs : List (D × D)} {H0 H : Hp} {p : Addr} {o : Obj} {es : Array DictEntry} {ep : Nat} {xs : List Ent} (h1 : H p = some (rawO p o)) (h2 : o.ExactDict) (h3 : o.data = .dict es ep) (h4 : (p == sysModules) = false)
    (h5 : es.toList = xs.map (entW w)) (h6 : (xs.map (·.1)).Nodup) (h7 : xs.length ≤ sizeLine) (h8 : TkR K ca H0 xs kvs) : TkAt w K ca kvs H0 H p := by
  obtain ⟨k1, k2, k3, vs, k4, k5⟩ := h8.out
  exact ⟨o, es, ep, xs, vs, h1, h2, h3, h4, h5, h6, h7, k1, k2, k3, k4, k5⟩
section
variable {X : Cx} {pins : List (Addr × Obj)} {σ : St} {H H0 : Hp} {s : Shared} {ca : Str → Addr} {kvs : List (D × D)} {p : Addr}
theorem nested_each {h : Heap} : ∀ {ks : List NestedKey} {vs : List Value} {i : Nat} {k : NestedKey}, NestedAll h ks vs → ks[i]? = some k → ∃ v, vs[i]? = some v ∧ NestedIs h k v
  | _, _, 0, _, .cons h _, e => by simp at e; subst e; exact ⟨_, rfl, h⟩
  | _, _, i + 1, _, .cons _ t, e => by
    obtain ⟨v, h1, h2⟩ := nested_each (i := i) t (by simpa using e)
    exact ⟨v, by simpa using h1, h2⟩
  | _, _, i, _, .nil, e => by simp at e
theorem TkR.is (I : Inv X pins σ H s) (sub : Ex H0 H) {xs : List Ent} {kvs : List (D × D)} (h : TkR X.K ca H0 xs kvs) : ∀ x ∈ xs, (nestedKind X.prog X.w).is s.heap x.1 x.2.1 := by
  induction h with
  | nil => exact fun x h => by cases h
  | cons h1 h2 h3 h4 h5 _ ih =>
    intro x hx
    rcases List.mem_cons.mp hx with rfl | hx
    · exact ⟨rep_nested I _ _ _ _ (h1.mono sub) h2 rfl, h3⟩
    · exact ih x hx
theorem raw_get {o : Obj} (I : Inv X pins σ H s) (h : H p = some (rawO p o)) : s.heap.get? p = some o := (I.hok p _ h).1
theorem raw_ok {P : Program} {w : World} {o : Obj} {h : Heap} (e : h.get? p = some o) : ObjOk P w H h p (rawO p o) := ⟨e, ⟨o, e⟩, fun _ _ a b => b o a⟩
/-- the dict, as the library has it -/
theorem tk_heap (I : Inv X pins σ H s) (sub : Ex H0 H) (h : TkAt X.w X.K ca kvs H0 H p) : ∃ xs : List Ent, s.heap.DictOfH (nestedKind X.prog X.w) p xs ∧ (p == sysModules) = false ∧ xs.length ≤ sizeLine ∧ (xs.map (·.1)).Nodup ∧ TkR X.K ca H0 xs kvs ∧ (∃ o, H p = some (rawO p o)) := by
  obtain ⟨o, es, ep, xs, h1, h2, h3, h4, h5, h6, h7, h8⟩ := tk_pairs h
  exact ⟨xs, ⟨o, es, ep, raw_get I h1, h2, h3, h5, h8.is I sub, h6⟩, h4, h7, h6, h8, o, h1⟩
/-- what was stored -/
theorem tk_store {P : Program} {w : World} {h' : Heap} {xs : List Ent} {K : PySem.W.Frag} (hd : h'.DictOfH (nestedKind P w) p xs) (h4 : (p == sysModules) = false) (h7 : xs.length ≤ sizeLine) (h8 : TkR K ca H0 xs kvs) : ∃ o, h'.get? p = some o ∧ ∀ H : Hp, TkAt w K ca kvs H0 (upd H p (rawO p o)) p := by
  obtain ⟨o, es, ep, g1, g2, g3, g4, g5, g6⟩ := hd
  exact ⟨o, g1, fun H => tk_mk upd_same g2 g3 h4 g4 g6 h7 h8⟩
end
end Mir
set_option Elab.async false
set_option linter.all false
set_option maxRecDepth 100000
set_option maxHeartbeats 4000000
/-! Mirror layer, part Q: what is done with dicts of one's own (keys nested tuples). -/
namespace Mir
open PySem PySem.Spec L2
variable {ρ : Type} [Rsc ρ]

/-! ### by values -/
def rTkIx (w : World) (K : PySem.W.Frag) : R2 := fun x y H Q => ∃ (ca : Str → Addr) (H0 : Hp) (kvs : List (D × D)) (p : Addr) (kd : D) (k : NestedKey) (d : D), x = .ref p ∧ Ex H0 H ∧ TkAt w K ca kvs H0 H p ∧ Rep K ca H0 y kd ∧ tkKey kd = some k ∧ tkGet kvs k = some d ∧ ∀ v, Rep K ca H0 v d → Q v H
def rTkIn (w : World) (K : PySem.W.Frag) : R2 := fun x y H Q => ∃ (ca : Str → Addr) (H0 : Hp) (kvs : List (D × D)) (p : Addr) (kd : D) (k : NestedKey), y = .ref p ∧ Ex H0 H ∧ TkAt w K ca kvs H0 H p ∧ Rep K ca H0 x kd ∧ tkKey kd = some k ∧ Q (.bl (tkGet kvs k).isSome) H
def rTkNotIn (w : World) (K : PySem.W.Frag) : R2 := fun x y H Q => ∃ (ca : Str → Addr) (H0 : Hp) (kvs : List (D × D)) (p : Addr) (kd : D) (k : NestedKey), y = .ref p ∧ Ex H0 H ∧ TkAt w K ca kvs H0 H p ∧ Rep K ca H0 x kd ∧ tkKey kd = some k ∧ Q (.bl (!(tkGet kvs k).isSome)) H
def rTkSet (w : World) (K : PySem.W.Frag) : TSet := fun x y v H Q => ∃ (ca : Str → Addr) (H0 : Hp) (kvs : List (D × D)) (p : Addr) (kd : D) (k : NestedKey) (d : D), x = .ref p ∧ Ex H0 H ∧ TkAt w K ca kvs H0 H p ∧ Rep K ca H0 y kd ∧ tkKey kd = some k ∧ Rep K ca H0 v d ∧ kvs.length < sizeLine ∧
  ∀ o, TkAt w K ca (tkPut kvs kd k d) H0 (upd H p (rawO p o)) p → Q (upd H p (rawO p o))
def rTkGet (w : World) (K : PySem.W.Frag) : V → List V → Hp → VK → Prop := fun x ys H Q => ∃ (ca : Str → Addr) (H0 : Hp) (kvs : List (D × D)) (p : Addr) (y : V) (kd : D) (k : NestedKey), x = .ref p ∧ ys = [y] ∧ Ex H0 H ∧ TkAt w K ca kvs H0 H p ∧ Rep K ca H0 y kd ∧ tkKey kd = some k ∧
  ∀ v, Rep K ca H0 v ((tkGet kvs k).getD .non) → Q v H
def rTkList (w : World) (K : PySem.W.Frag) : List V → Hp → VK → Prop := fun xs H Q => ∃ (ca : Str → Addr) (H0 : Hp) (kvs : List (D × D)) (p : Addr), xs = [.ref p] ∧ Ex H0 H ∧ TkAt w K ca kvs H0 H p ∧ ∀ l vs, H l = none → RepA K ca H0 vs (kvs.map (·.1)) → Q (.ref l) (upd H l (.lst vs))
section
variable {X : Cx}
theorem key_is {pins : List (Addr × Obj)} {σ : L2.St} {H H0 : Hp} {s : Shared} {ca : Str → Addr} {y : V} {u : Value} {kd : D} {k : NestedKey} (I : Inv X pins σ H s) (sub : Ex H0 H) (r : Rep X.K ca H0 y kd) (e : tkKey kd = some k) (q : RelV y u) : ∃ a, y = .ref a ∧ u = .ref a ∧ (nestedKind X.prog X.w).is s.heap k a := by
  obtain ⟨xs, rfl, h1, h2⟩ := tkKey_some e
  obtain ⟨a, ws, rfl, _⟩ := r.of_tup
  cases q
  exact ⟨a, rfl, rfl, rep_nested I _ _ _ _ (r.mono sub) h1 rfl, h2⟩
theorem nk_room (hu : X.A.units + 65 < cLine) : (nestedKind X.prog X.w).room X.A.in1 := by
  show X.A.units + 1 + 8 < cLine
  omega
theorem nk_room0 (hu : X.A.units + 65 < cLine) : (nestedKind X.prog X.w).room X.A := by
  show X.A.units + 8 < cLine
  omega
theorem ix_tk (hu : X.A.units + 65 < cLine) : IxR X (rTkIx X.w X.K) := by
  intro value slice pins s σ H x y v u Q I rx ry h hs
  obtain ⟨ca, H0, kvs, p, kd, k, d, rfl, sub, ht, rk, ek, eg, q⟩ := h
  cases rx
  obtain ⟨a, rfl, rfl, ki⟩ := key_is I sub rk ek ry
  obtain ⟨xs, hd, _, _, _, tr, _⟩ := tk_heap I sub ht
  rcases tr.look k with ⟨e1, _⟩ | ⟨vd, pr, w2, e1, e2, e3, e4⟩
  · rw [eg] at e1; cases e1
  · rw [eg] at e1
    cases e1
    exact PyProof.Rows.tail_any (ops := [.ref p, .ref a]) hd.typeIs slot_dict_getitem.lookup (wpAny_getItem_heap (nk_room hu) ki hd e2 ⟨w2, H, I.tok _, e3, q _ e4⟩) hs
theorem op_tkIn (hu : X.A.units + 65 < cLine) : OpR X (compareOp .In) (rTkIn X.w X.K) := by
  intro pins s σ H x y v u Q I rx ry h
  obtain ⟨ca, H0, kvs, p, kd, k, rfl, sub, ht, rk, ek, q⟩ := h
  cases ry
  obtain ⟨a, rfl, rfl, ki⟩ := key_is I sub rk ek rx
  obtain ⟨xs, hd, hm, _, _, tr, _⟩ := tk_heap I sub ht
  refine wpAny_in_heap (nk_room hu) ki hm hd ⟨.bl _, H, I.tok _, rfl, ?_⟩
  rcases tr.look k with ⟨e1, e2⟩ | ⟨vd, pr, w2, e1, e2, _⟩
  · rw [e1] at q; rw [e2]; exact q
  · rw [e1] at q; rw [e2]; exact q
theorem op_tkNotIn (hu : X.A.units + 65 < cLine) : OpR X (compareOp .NotIn) (rTkNotIn X.w X.K) := by
  intro pins s σ H x y v u Q I rx ry h
  obtain ⟨ca, H0, kvs, p, kd, k, rfl, sub, ht, rk, ek, q⟩ := h
  cases ry
  obtain ⟨a, rfl, rfl, ki⟩ := key_is I sub rk ek rx
  obtain ⟨xs, hd, hm, _, _, tr, _⟩ := tk_heap I sub ht
  refine notIn_keyed (nk_room hu) ki hm ⟨xs, hd, rfl⟩ ?_
  rw [valueAt_pairsH, Option.isSome_map]
  refine ⟨.bl _, H, I.tok _, rfl, ?_⟩
  rcases tr.look k with ⟨e1, e2⟩ | ⟨vd, pr, w2, e1, e2, _⟩
  · rw [e1] at q; rw [e2]; exact q
  · rw [e1] at q; rw [e2]; exact q
theorem mt_tkGet (hu : X.A.units + 65 < cLine) : MtR X "dict.get" (rTkGet X.w X.K) := by
  intro pins s σ H x ys v us Q I rx rys h
  obtain ⟨ca, H0, kvs, p, y, kd, k, rfl, rfl, sub, ht, rk, ek, q⟩ := h
  cases rx
  obtain ⟨u, rfl, ry⟩ := vals1 rys
  obtain ⟨a, rfl, rfl, ki⟩ := key_is I sub rk ek ry
  obtain ⟨xs, hd, hm, _, _, tr, _⟩ := tk_heap I sub ht
  refine get_keyed (nk_room hu) ki hm ⟨xs, hd, rfl⟩ ?_
  rw [valueAt_pairsH]
  rcases tr.look k with ⟨e1, e2⟩ | ⟨vd, pr, w2, e1, e2, e3, e4⟩
  · rw [e1] at q; rw [e2]
    exact ⟨.non, H, I.tok _, rfl, q _ .non⟩
  · rw [e1] at q; rw [e2]
    exact ⟨w2, H, I.tok _, e3, q _ e4⟩
theorem set_tk (hu : X.A.units + 65 < cLine) : PSet X (rTkSet X.w X.K) := by
  intro pins s σ H x y z v u u2 Q I rx ry rz h
  obtain ⟨ca, H0, kvs, p, kd, k, d, rfl, sub, ht, rk, ek, rd, hlen, q⟩ := h
  cases (show v = Value.ref p from rx)
  obtain ⟨a, rfl, rfl, ki⟩ := key_is I sub rk ek ry
  obtain ⟨xs, hd, hm, hz, hn, tr, o0, ho0⟩ := tk_heap I sub ht
  obtain ⟨_, hkk, hkd⟩ := tkKey_some ek
  refine wpAny_setItem_heap (nk_room hu) ki hd (fun h' hd' sb => ?_) hz
  have tr' := tr.put (a := a) rk hkd.1 hkd.2 rz rd
  obtain ⟨o, g1, g2⟩ := tk_store hd' hm (by have := storedH_len xs k a u2; rw [tr.length] at this; omega) tr'
  exact ⟨upd H p (rawO p o), I.write (x := p) (e := p) (by rw [ho0]; trivial) (.inl rfl) (fun b o2 hb hu2 => (sb.2 b hb).trans hu2) ⟨_, g1⟩ (raw_ok g1), q o (g2 H)⟩
theorem vals_refs : ∀ xs : List Ent, Vals (xs.map fun x => V.ref x.2.1) (xs.map fun x => Value.ref x.2.1)
  | [] => .nil
  | x :: xs => .cons rfl (vals_refs xs)
theorem cr_tkList (hc : X.calm = true) : CallR X (.type "list") (rTkList X.w X.K) := by
  intro pins s σ H vs us Q I r h
  obtain ⟨ca, H0, kvs, p, rfl, sub, ht, q⟩ := h
  rw [Vals.ref1 r]
  obtain ⟨o, es, ep, xs, h1, h2, h3, h4, h5, h6, h7, h8⟩ := tk_pairs ht
  have hraw : s.heap.DictRaw p es ep := ⟨o, raw_get I h1, h2, h3⟩
  have hsz : es.size = xs.length := by rw [← Array.length_toList, h5, List.length_map]
  refine PySem.W.kdl_call (PySem.KdlSrc.rawDict h4) (I.ok.hd hc) hraw (by rw [hsz]; exact h7) fun h' tk acc c kp hob hit => ?_
  have eacc : acc.toList = xs.map fun x => Value.ref x.2.1 := by
    apply List.ext_getElem?
    intro i
    rw [List.getElem?_map]
    cases z : xs[i]? with
    | none =>
      show acc.toList[i]? = none
      rw [List.getElem?_eq_none_iff] at z ⊢
      rw [Array.length_toList, hit.1, hsz]; exact z
    | some x =>
      have hi : i < xs.length := (List.getElem?_eq_some_iff.mp z).1
      have ha : i < acc.size := by rw [hit.1, hsz]; exact hi
      obtain ⟨h9, h10⟩ := hit.2 i acc[i] (Array.getElem?_eq_getElem ha)
      have h11 : es.toList[i]? = some (entW X.w x) := by rw [h5, List.getElem?_map, z]; rfl
      rw [Array.getElem?_toList, Array.getElem?_eq_getElem h9] at h11
      show acc.toList[i]? = some (Value.ref x.2.1)
      rw [Array.getElem?_toList, Array.getElem?_eq_getElem ha, h10, Option.some.inj h11]
      rfl
  have ev : Vals (xs.map fun x => V.ref x.2.1) acc.toList := by
    rw [eacc]
    exact vals_refs xs
  obtain ⟨k1, _⟩ := h8.out
  refine ⟨.ref s.heap.objs.size, upd H s.heap.objs.size (.lst (xs.map fun x => V.ref x.2.1)), I.laid (t' := tk) kp (Nat.le_refl _) ⟨by rw [List.length_map]; exact h7, acc.toList, c, ev, by simpa using hob⟩, rfl, q _ _ (I.hok.fresh (Nat.le_refl _)) k1⟩
end
end Mir
set_option Elab.async false
set_option linter.all false
set_option maxRecDepth 100000
set_option maxHeartbeats 4000000
/-! Mirror layer, part R: displays and the mirrors of dicts of one's own. -/
namespace Mir
open PySem PySem.Spec L2
variable {ρ : Type} [Rsc ρ]

def emptyD : Obj := { cls := .type "dict", data := .dict #[] }
def tTkDisp (w : World) (K : PySem.W.Frag) (tk tv : TE) : TE := fun σ H Q => ∀ p, H p = none → tk σ (upd H p (rawO p emptyD)) fun x H1 => tv σ H1 fun y H2 => H2 p = some (rawO p emptyD) ∧
  ∃ (ca : Str → Addr) (H0 : Hp) (kd : D) (k : NestedKey) (d : D), Ex H0 H2 ∧ Rep K ca H0 x kd ∧ tkKey kd = some k ∧ Rep K ca H0 y d ∧ ∀ o, TkAt w K ca [(kd, d)] H0 (upd H2 p (rawO p o)) p → Q (.ref p) (upd H2 p (rawO p o))
def tTkNew (w : World) (K : PySem.W.Frag) : TE := fun σ H Q => ∀ p, H p = none → (∀ ca H0, TkAt w K ca [] H0 (upd H p (rawO p emptyD)) p) → Q (.ref p) (upd H p (rawO p emptyD))
section
variable {X : Cx} {pos : Pos} {ke ve : Expr} {tk tv : TE}
theorem tk_empty {w : World} {K : PySem.W.Frag} {ca : Str → Addr} {H0 H : Hp} {p : Addr} (hp : (p == sysModules) = false) (e : H p = some (rawO p emptyD)) : TkAt w K ca [] H0 H p :=
  tk_mk (xs := []) e ⟨rfl, rfl, rfl⟩ rfl hp rfl List.nodup_nil (Nat.zero_le _) .nil
theorem pe_tkNew : PE X (.Dict [] [] pos) (tTkNew X.w X.K) := ⟨fun pins s σ H Q I h => by
  have hp : (s.heap.objs.size == sysModules) = false := beq_eq_false_iff_ne.mpr (Ne.symm (Nat.ne_of_lt I.big))
  exact wpAny_Dict_empty ⟨.ref s.heap.objs.size, _, I.laid (a := s.heap.objs.size) (o := rawO s.heap.objs.size emptyD) (t' := s.toks) (fun _ _ q => Heap.get?_push_of_some _ q) (Nat.le_refl _) (raw_ok (Heap.get?_push_size _ rfl)), rfl, h _ (I.hok.fresh (Nat.le_refl _)) fun ca H0 => tk_empty hp upd_same⟩⟩
theorem pe_tkDisp (hu : X.A.units + 65 < cLine) (hk : PE X ke tk) (hv : PE X ve tv) : PE X (.Dict [some ke] [ve] pos) (tTkDisp X.w X.K tk tv) := by
  refine ⟨fun pins s σ H Q I h => ?_⟩
  have hn := I.hok.fresh (Nat.le_refl s.heap.objs.size)
  have hp : (s.heap.objs.size == sysModules) = false := beq_eq_false_iff_ne.mpr (Ne.symm (Nat.ne_of_lt I.big))
  have I1 := I.laid (a := s.heap.objs.size) (o := rawO s.heap.objs.size emptyD) (h' := s.heap.push emptyD) (t' := s.toks) (fun _ _ q => Heap.get?_push_of_some _ q) (Nat.le_refl _) (raw_ok (Heap.get?_push_size _ rfl))
  have hshape : (evalEachOpt [some ke] X.env).zip ((evalEach [ve] X.env).map fun v => do let x ← v; standAt pos; pure x) = (pairTrees [some ke] [ve] X.env pos).map fun p => (some p.1, p.2) := by rfl
  rw [arm_eval_Dict, hshape, dictDisplay_pairs (pairTrees [some ke] [ve] X.env pos) (by intro z; cases z) (show (1 : Nat) < 17 by decide)]
  refine wpAny_bind (wpAny_standAt (wpAny_bind (wpAny_subDictH (knd := nestedKind X.prog X.w) (nk_room0 hu) (show (1 : Nat) ≤ 15 by decide) ?_)))
  refine pairTrees_cons_walk (thn (hk.run pins _ σ _ _ I1 (h _ hn)) fun u s1 ⟨x, H1, I2, rx, q1⟩ => thn (hv.run pins s1 σ H1 _ I2 q1) fun w2 s2 ⟨y, H2, I3, ry, q2⟩ => pairTrees_nil_walk ?_)
  obtain ⟨e2, ca, H0, kd, k, d, sub, rk, ek, rd, q⟩ := q2
  obtain ⟨a, rfl, rfl, ki⟩ := key_is I3 sub rk ek rx
  refine ⟨[(k, a, w2)], ⟨rfl, rfl, ki, trivial⟩, ?_, fun h' tk hd sb => wpAny_pure ?_⟩
  · exact ⟨emptyD, #[], 0, raw_get I3 e2, ⟨rfl, rfl, rfl⟩, rfl, rfl, fun x hx => (by cases hx), List.nodup_nil⟩
  · obtain ⟨xs0, hk1, hk2⟩ := tkKey_some ek
    have hd' : h'.DictOfH (nestedKind X.prog X.w) s.heap.objs.size [(k, a, w2)] := hd
    obtain ⟨o, g1, g2⟩ := tk_store hd' hp (by rw [List.length_singleton, sizeLine_eq]; omega) (TkR.cons rk hk2.1 hk2.2 ry rd .nil)
    exact ⟨.ref s.heap.objs.size, upd H2 s.heap.objs.size (rawO s.heap.objs.size o), I3.write (x := s.heap.objs.size) (e := s.heap.objs.size) (by rw [e2]; trivial) (.inl rfl) (fun b o2 hb hu2 => (sb.2 b hb).trans hu2) ⟨_, g1⟩ (raw_ok g1), rfl, q o (g2 H2)⟩
end

/-! ### mirrors -/
variable [HasD ρ]
abbrev tkS (kvs : List (D × D)) : SV ρ := .res (HasD.tk kvs)
def tkOf (s : Option (SV ρ)) : Option (List (D × D)) := match s with
  | some (.res r) => HasD.un r
  | _ => none
theorem tkOf_some {s : Option (SV ρ)} {kvs : List (D × D)} (h : tkOf s = some kvs) : s = some (tkS kvs) := by
  unfold tkOf at h
  split at h
  · rw [HasD.tk_un _ _ h]
  · cases h
/-- {}, {k: v} -/
def mTkNew : ME ρ := fun env => .ok (tkS []) env
def mTkDisp (mk mv : ME ρ) : ME ρ := fun env => (toD mk env).bind fun kd env => (toD mv env).bind fun d env => match tkKey kd with
  | some _ => .ok (tkS [(kd, d)]) env
  | none => .bad
/-- d[k] -/
def mTkIx (i : Nat) (b : ME ρ) : ME ρ := fun env => match tkOf env[i]? with
  | some _ => (toD b env).bind fun kd env => (match tkOf env[i]?, tkKey kd with
    | some kvs, some k => (match tkGet kvs k with
      | some d => .ok (.dat d) env
      | none => .bad)
    | _, _ => .bad)
  | none => .bad
/-- k in d -/
def mTkIn (i : Nat) (b : ME ρ) : ME ρ := fun env => (toD b env).bind fun kd env => (match tkOf env[i]?, tkKey kd with
    | some kvs, some k => .ok (.dat (.bl (tkGet kvs k).isSome)) env
    | _, _ => .bad)
def mTkNotIn (i : Nat) (b : ME ρ) : ME ρ := fun env => (toD b env).bind fun kd env => (match tkOf env[i]?, tkKey kd with
    | some kvs, some k => .ok (.dat (.bl (!(tkGet kvs k).isSome))) env
    | _, _ => .bad)
/-- d[k] = v -/
def tgTk (i : Nat) (b : ME ρ) : D → Env ρ → Rs ρ Unit := fun d env => match tkOf env[i]? with
  | some _ => (toD b env).bind fun kd env => (match tkOf env[i]?, tkKey kd with
    | some kvs, some k => if kvs.length < sizeLine then .ok () (env.set i (tkS (tkPut kvs kd k d))) else .bad
    | _, _ => .bad)
  | none => .bad
/-- list(d) -/
def mTkList (i : Nat) : ME ρ := fun env => match tkOf env[i]? with
  | some kvs => .ok (.lst (kvs.map (·.1))) env
  | none => .bad
section
variable {X : Cx} {c : Cm} {b e : Expr} {mb : ME ρ} {pos : Pos} {i : Nat} {x : Str} {px : Pos}
theorem em_tkNew (hw : HasD.w ρ = X.w := by rfl) : EM X c (.Dict [] [] pos) (mTkNew (ρ := ρ)) := by
  refine ⟨_, pe_tkNew, fun Γ H0 H σ env Q E w p hp h => ?_⟩
  refine w H0 _ (Evl.Ex.refl _) _ (E.freshO hp ⟨_, rfl, HasD.at_tk.mpr ⟨p, rfl, fun a => Iff.rfl, ?_⟩⟩)
  rw [hw]
  exact h _ _
theorem em_tkIx (hu : X.A.units + 65 < cLine) (hb : EM X c b mb) (hN : X.N[i]? = some x := by rfl) (hv : Vis X.env.scope x := by first | exact Or.inl rfl | exact Or.inr (Or.inl rfl) | exact Or.inr (Or.inr rfl)) (hd : (x == ("__debug__" : Str)) = false := by decide)
    (hcd : (x == ("__classdict__" : Str)) = false := by decide) (hs : PlainIx b := by exact fun _ _ => rfl) (hw : HasD.w ρ = X.w := by rfl) : EM X c (.Subscript (.Name x px) b pos) (mTkIx i mb) := by
  obtain ⟨t, h1, h2⟩ := hb
  refine ⟨_, pe_ix (ix_tk hu) (pe_var (i := i) hN hv hd hcd) h1 hs, fun Γ H0 H σ env Q E w => ?_⟩
  unfold mTkIx at w
  cases z : tkOf env[i]? with
  | none => rw [z] at w; exact w.elim
  | some kvs0 =>
    rw [z] at w
    obtain ⟨p, k1, k2, _⟩ := E.tk (tkOf_some z)
    refine ⟨_, k1, ?_⟩
    refine h2.toD Γ H0 H σ env _ E ((Wp.bind w).imp fun kd env1 H1 H1' e1 q y E1 r1 => ?_)
    cases z2 : tkOf env1[i]? with
    | none => rw [z2] at q; exact q.elim
    | some kvs =>
      cases z3 : tkKey kd with
      | none => rw [z2, z3] at q; exact q.elim
      | some k =>
        rw [z2, z3] at q
        dsimp only at q
        cases z4 : tkGet kvs k with
        | none => rw [z4] at q; exact q.elim
        | some d =>
          rw [z4] at q
          obtain ⟨p', l1, l2, _⟩ := E1.tk (tkOf_some z2)
          rw [k1] at l1
          cases l1
          rw [hw] at l2
          obtain ⟨F1, E1'⟩ := E1
          exact ⟨c.ca, H1, kvs, p, kd, k, d, rfl, E1'.sub, l2, r1, z3, z4, fun v rv => q H1 H1' (Evl.Ex.refl _) v ((show EnvOk X.K c.ca c.ps Γ H1 H1' σ env1 from ⟨F1, E1'⟩).dat rv)⟩
theorem gm_tk (hu : X.A.units + 65 < cLine) (hb : EM X c b mb) (hN : X.N[i]? = some x := by rfl) (hv : Vis X.env.scope x := by first | exact Or.inl rfl | exact Or.inr (Or.inl rfl) | exact Or.inr (Or.inr rfl)) (hd : (x == ("__debug__" : Str)) = false := by decide)
    (hcd : (x == ("__classdict__" : Str)) = false := by decide) (hw : HasD.w ρ = X.w := by rfl)
    (ha : ∀ v, assign (.Subscript (.Name x px) b pos) X.env v = (do
      let ov ← holding [v] (eval (.Name x px) X.env)
      let iv ← holding [v, ov] (eval b X.env)
      standAt pos
      holding [v, ov, iv] (setItem ov iv v)
      release [v, ov, iv] []) := by intro _; rfl) : GM X c (.Subscript (.Name x px) b pos) (tgTk i mb) [] := by
  obtain ⟨t, h1, h2⟩ := hb
  refine ⟨_, pg_sub (pe_var (i := i) hN hv hd hcd) h1 (set_tk hu) ha, fun Γ H0 H σ env v d Q E r w => ?_⟩
  unfold tgTk at w
  cases z : tkOf env[i]? with
  | none => rw [z] at w; exact w.elim
  | some kvs0 =>
    rw [z] at w
    obtain ⟨p, k1, k2, _⟩ := E.tk (tkOf_some z)
    refine ⟨_, k1, ?_⟩
    refine h2.toD Γ H0 H σ env _ E ((Wp.bind w).imp fun kd env1 H1 H1' e1 q y E1 r1 => ?_)
    cases z2 : tkOf env1[i]? with
    | none => rw [z2] at q; exact q.elim
    | some kvs =>
      cases z3 : tkKey kd with
      | none => rw [z2, z3] at q; exact q.elim
      | some k =>
        rw [z2, z3] at q
        dsimp only at q
        split at q
        · rename_i hz
          obtain ⟨p', l1, l2, l3⟩ := E1.tk (tkOf_some z2)
          rw [k1] at l1
          cases l1
          obtain ⟨F1, E1'⟩ := E1
          refine ⟨c.ca, H1, kvs, p, kd, k, d, rfl, E1'.sub, by rw [← hw]; exact l2, r1, z3, r.mono e1, hz, fun o ho => ?_⟩
          exact q H1 _ (Evl.Ex.refl _) σ (l3 (by rw [hw]; exact ho)) ⟨rfl, fun _ _ => rfl⟩
        · exact q.elim
theorem sim_tkIn (h2 : SimE X.K c (t : TE) mb) (hw : HasD.w ρ = X.w) : SimE X.K c (tOp (rTkIn X.w X.K) t (tVar i)) (mTkIn i mb) := fun Γ H0 H σ env Q E w => by
  refine h2.toD Γ H0 H σ env _ E ((Wp.bind w).imp fun kd env1 H1 H1' e1 q y E1 r1 => ?_)
  cases z2 : tkOf env1[i]? with
  | none => rw [z2] at q; exact q.elim
  | some kvs =>
    cases z3 : tkKey kd with
    | none => rw [z2, z3] at q; exact q.elim
    | some k =>
      rw [z2, z3] at q
      obtain ⟨p, l1, l2, _⟩ := E1.tk (tkOf_some z2)
      rw [hw] at l2
      have E1' := E1
      obtain ⟨F1, E1⟩ := E1
      exact ⟨_, l1, c.ca, H1, kvs, p, kd, k, rfl, E1.sub, l2, r1, z3, q H1 H1' (Evl.Ex.refl _) _ (E1'.dat (.bl _))⟩
theorem sim_tkNotIn (h2 : SimE X.K c (t : TE) mb) (hw : HasD.w ρ = X.w) : SimE X.K c (tOp (rTkNotIn X.w X.K) t (tVar i)) (mTkNotIn i mb) := fun Γ H0 H σ env Q E w => by
  refine h2.toD Γ H0 H σ env _ E ((Wp.bind w).imp fun kd env1 H1 H1' e1 q y E1 r1 => ?_)
  cases z2 : tkOf env1[i]? with
  | none => rw [z2] at q; exact q.elim
  | some kvs =>
    cases z3 : tkKey kd with
    | none => rw [z2, z3] at q; exact q.elim
    | some k =>
      rw [z2, z3] at q
      obtain ⟨p, l1, l2, _⟩ := E1.tk (tkOf_some z2)
      rw [hw] at l2
      have E1' := E1
      obtain ⟨F1, E1⟩ := E1
      exact ⟨_, l1, c.ca, H1, kvs, p, kd, k, rfl, E1.sub, l2, r1, z3, q H1 H1' (Evl.Ex.refl _) _ (E1'.dat (.bl _))⟩
theorem em_tkIn (hu : X.A.units + 65 < cLine) (hb : EM X c b mb) (hN : X.N[i]? = some x := by rfl) (hv : Vis X.env.scope x := by first | exact Or.inl rfl | exact Or.inr (Or.inl rfl) | exact Or.inr (Or.inr rfl)) (hd : (x == ("__debug__" : Str)) = false := by decide)
    (hcd : (x == ("__classdict__" : Str)) = false := by decide) (hw : HasD.w ρ = X.w := by rfl) : EM X c (.Compare b [.In] [.Name x px] pos) (mTkIn i mb) := let ⟨_, h1, h2⟩ := hb; ⟨_, pe_cmpR (op_tkIn hu) h1 (pe_var (i := i) hN hv hd hcd) rfl, sim_tkIn h2 hw⟩
theorem tm_tkIn (hu : X.A.units + 65 < cLine) (hb : EM X c b mb) (hN : X.N[i]? = some x := by rfl) (hv : Vis X.env.scope x := by first | exact Or.inl rfl | exact Or.inr (Or.inl rfl) | exact Or.inr (Or.inr rfl)) (hd : (x == ("__debug__" : Str)) = false := by decide)
    (hcd : (x == ("__classdict__" : Str)) = false := by decide) (hw : HasD.w ρ = X.w := by rfl) : TM X c (.Compare b [.In] [.Name x px] pos) (mTest (mTkIn i mb)) := let ⟨_, h1, h2⟩ := hb; ⟨_, pt_cmpR (op_tkIn hu) h1 (pe_var (i := i) hN hv hd hcd) rfl, sim_testT (sim_tkIn h2 hw)⟩
theorem em_tkNotIn (hu : X.A.units + 65 < cLine) (hb : EM X c b mb) (hN : X.N[i]? = some x := by rfl) (hv : Vis X.env.scope x := by first | exact Or.inl rfl | exact Or.inr (Or.inl rfl) | exact Or.inr (Or.inr rfl)) (hd : (x == ("__debug__" : Str)) = false := by decide)
    (hcd : (x == ("__classdict__" : Str)) = false := by decide) (hw : HasD.w ρ = X.w := by rfl) : EM X c (.Compare b [.NotIn] [.Name x px] pos) (mTkNotIn i mb) := let ⟨_, h1, h2⟩ := hb; ⟨_, pe_cmpR (op_tkNotIn hu) h1 (pe_var (i := i) hN hv hd hcd) rfl, sim_tkNotIn h2 hw⟩
theorem tm_tkNotIn (hu : X.A.units + 65 < cLine) (hb : EM X c b mb) (hN : X.N[i]? = some x := by rfl) (hv : Vis X.env.scope x := by first | exact Or.inl rfl | exact Or.inr (Or.inl rfl) | exact Or.inr (Or.inr rfl)) (hd : (x == ("__debug__" : Str)) = false := by decide)
    (hcd : (x == ("__classdict__" : Str)) = false := by decide) (hw : HasD.w ρ = X.w := by rfl) : TM X c (.Compare b [.NotIn] [.Name x px] pos) (mTest (mTkNotIn i mb)) := let ⟨_, h1, h2⟩ := hb; ⟨_, pt_cmpR (op_tkNotIn hu) h1 (pe_var (i := i) hN hv hd hcd) rfl, sim_testT (sim_tkNotIn h2 hw)⟩
theorem em_tkList (hc : X.calm = true) {p : Pos} (hm : X.mg "list" = none) (hN : X.N[i]? = some x := by rfl) (hv : Vis X.env.scope x := by first | exact Or.inl rfl | exact Or.inr (Or.inl rfl) | exact Or.inr (Or.inr rfl)) (hd : (x == ("__debug__" : Str)) = false := by decide)
    (hcd : (x == ("__classdict__" : Str)) = false := by decide) (hw : HasD.w ρ = X.w := by rfl) (hg : Gl X "list" := by rfl) (he : starEach [.Name x px] X.env = (false, eval (.Name x px) X.env) :: starEach [] X.env := by rfl) (hpl : (backTo pos (starEach [] X.env)).any (·.1) = false := by rfl) :
    EM X c (.Call (.Name "list" p) [.Name x px] [] pos) (mTkList (ρ := ρ) i) := by
  refine ⟨_, pe_callTy (cr_tkList hc) hg hm (by decide +kernel) (pa_cons (pe_var (i := i) hN hv hd hcd) pa_nil he) (he := he) (hpl := hpl), fun Γ H0 H σ env Q E w => ?_⟩
  unfold mTkList at w
  cases z : tkOf env[i]? with
  | none => rw [z] at w; exact w.elim
  | some kvs =>
    rw [z] at w
    obtain ⟨p, k1, k2, _⟩ := E.tk (tkOf_some z)
    rw [hw] at k2
    have E' := E
    obtain ⟨F1, E⟩ := E
    exact ⟨_, k1, c.ca, H0, kvs, p, rfl, E.sub, k2, fun l vs hl r => w H0 _ (Evl.Ex.refl _) _ (E'.fresh hl r)⟩
theorem em_tkDisp {ke ve : Expr} {mk mv : ME ρ} (hu : X.A.units + 65 < cLine) (hk : EM X c ke mk) (hv : EM X c ve mv) (hw : HasD.w ρ = X.w := by rfl) : EM X c (.Dict [some ke] [ve] pos) (mTkDisp mk mv) := by
  obtain ⟨tk, k1, k2⟩ := hk
  obtain ⟨tv, v1, v2⟩ := hv
  refine ⟨_, pe_tkDisp hu k1 v1, fun Γ H0 H σ env Q E w p hp => ?_⟩
  have hΓ : Γ.H p = none := by obtain ⟨F, E⟩ := E; exact E.alive p hp
  obtain ⟨F0, E0⟩ := E
  have h0 : H0 p = none := E0.free hp
  have E1 := E0.newo hp (rawO p emptyD)
  have n1 : ∀ j, ¬ F0 j p := fun j f => E0.np hp j p f rfl
  have w := w
  unfold mTkDisp at w
  refine k2.toD (Γ.at_ H0 (upd H p (rawO p emptyD)) F0) H0 _ σ env _ ⟨F0, E1.rebase⟩ ?_
  have w1 := Wp.bind w
  cases z1 : toD mk env with
  | bad => rw [z1] at w1; exact w1.elim
  | exc cx env1 =>
    rw [z1] at w1
    intro H0' H' σ' E'
    obtain ⟨F', E'⟩ := E'
    exact w1 H0' H' σ' ⟨F', E1.unbase E'⟩
  | ok kd env1 =>
    rw [z1] at w1
    intro H01 H1 e1 y E2 ry
    obtain ⟨F2, E2⟩ := E2
    have w2 := Wp.bind (w1 H01 H1 e1)
    have E2' := E1.unbase E2
    have d2 : H1 p = some (rawO p emptyD) := E2.frame p _ upd_same fun ⟨j, f⟩ => n1 j f
    have a2 : H01 p = none := E2.absorb p h0 (by show upd H p _ p ≠ none; rw [upd_same]; intro z; cases z) fun ⟨j, f⟩ => n1 j f
    have n2 : ∀ j, ¬ F2 j p := fun j f => by
      rcases (E2.fp j p f).2.2.2 with z | ⟨j', f'⟩
      · have z' : upd H p (rawO p emptyD) p = none := z
        rw [upd_same] at z'; cases z'
      · exact n1 j' f'
    refine v2.toD (Γ.at_ H01 H1 F2) H01 H1 σ env1 _ ⟨F2, E2'.rebase⟩ ?_
    cases z2 : toD mv env1 with
    | bad => rw [z2] at w2; exact w2.elim
    | exc cx env2 =>
      rw [z2] at w2
      intro H0' H' σ' E'
      obtain ⟨F', E'⟩ := E'
      exact w2 H0' H' σ' ⟨F', E2'.unbase E'⟩
    | ok d env2 =>
      rw [z2] at w2
      intro H02 H2 e2 v E3 rv
      obtain ⟨F3, E3⟩ := E3
      have E3' := E2'.unbase E3
      have d3 : H2 p = some (rawO p emptyD) := E3.frame p _ d2 fun ⟨j, f⟩ => n2 j f
      have a3 : H02 p = none := E3.absorb p a2 (by show H1 p ≠ none; rw [d2]; intro z; cases z) fun ⟨j, f⟩ => n2 j f
      have n3 : ∀ j, ¬ F3 j p := fun j f => by
        rcases (E3.fp j p f).2.2.2 with z | ⟨j', f'⟩
        · have z' : H1 p = none := z
          rw [d2] at z'; cases z'
        · exact n2 j' f'
      have w3 := w2 H02 H2 e2
      cases z3 : tkKey kd with
      | none => rw [z3] at w3; exact w3.elim
      | some k =>
        rw [z3] at w3
        refine ⟨d3, c.ca, H02, kd, k, d, E3'.sub, ry.mono e2, z3, rv, fun o ho => ?_⟩
        refine w3 H02 _ (Evl.Ex.refl _) _ ⟨F3, fun a => a = p, E3'.other a3 n3 hΓ, ⟨_, rfl, HasD.at_tk.mpr ⟨p, rfl, fun a => Iff.rfl, by rw [hw]; exact ho⟩⟩, fun i a f z => n3 i (by rw [← z]; exact f), fun a z => ?_⟩
        subst z
        exact ⟨a3, (by rw [upd_same]; intro z; cases z), .inl hΓ⟩
end
end Mir
set_option Elab.async false
set_option linter.all false
set_option maxRecDepth 100000
set_option maxHeartbeats 4000000
/-! Mirror layer, part S: the end. -/
namespace Mir
open PySem PySem.Spec L2
variable {ρ : Type} [Rsc ρ]

/-- the law's own promise -/
def spL (K : PySem.W.Frag) : Sp := fun vs H Q _ => ∃ (a : Addr) (ns : List Int), vs = [.ref a] ∧ ns.length ≤ 63 ∧ SqL K H a (ns.map V.int) ∧ ∀ H', Q (.bl true) H'
theorem spL_of {K : PySem.W.Frag} {ca : Str → Addr} {m : MF ρ} (hm : ∀ ns : List Int, ns.length ≤ 63 → ∃ env, m [.dat (.scr ns)] = .ok (.dat (.bl true)) env) {vs : List V} {H : Hp} {Q : VK} {E : XK} (h : spL K vs H Q E) : spM K ca [] 1 m vs H Q E := by
  obtain ⟨a, ns, rfl, hl, hS, q⟩ := h
  obtain ⟨env, e⟩ := hm ns hl
  refine ⟨rfl, ⟨H, H, fun _ => False, []⟩, H, [.dat (.scr ns)], rfl, rfl, ⟨fun _ _ => False, rfl, Evl.Ex.refl _, Evl.Ex.refl _, fun a h _ _ => h, fun a o h _ => h, fun a h => h, ⟨fun p h => (by cases h), rfl⟩, fun i s e => ?_, fun _ _ _ h => h.elim, fun _ _ h => h.elim⟩, ?_⟩
  · cases i with
    | zero =>
      simp at e
      subst e
      exact ⟨⟨_, rfl, .scr hS⟩, fun a z => z⟩
    | succ i => simp at e
  · rw [e]
    intro v H0' H' R
    rw [R.rep.flat_bl]
    exact q H'
theorem fn_spL {P : Program} {w : World} {K : PySem.W.Frag} {mg : Str → Option Value} {base : Heap} {ca : Str → Addr} {k : Nat} {f : Addr} {fd : FuncData} {x : Str} {m : MF ρ} (hm : ∀ ns : List Int, ns.length ≤ 63 → ∃ env, m [.dat (.scr ns)] = .ok (.dat (.bl true)) env)
    (F : FnOk P w K mg base (L2.CX P w) k f fd [x] (spM K ca [] 1 m)) : FnOk P w K mg base (L2.CX P w) k f fd [x] (spL K) := F.imp fun _ _ _ _ h => spL_of hm h
theorem no_exc {P : Program} {w : World} {H : Hp} {s s' : Shared} {e : Value} (h : L2.CX P w [] H s (fun _ _ _ => False) e s') : False := by
  obtain ⟨_, _, _, _, _, _, _, _, _, _, _, _, h⟩ := h
  exact h
theorem walk_ofC {l : PySem.W.OpenLaw} {k : Nat} {q : Program} {loose : List Str} {XP : (Str → Option Value) → Heap → Prop} {YP : World → Heap → Prop} {d : DefRec} {K : Params → PySem.W.Frag} {x : Str}
    (hn : l.most = some 63) (hdf : d.params.defaults = []) (hr : Room k callerA) (hY : ∀ (w : World) (h : Heap), YP w h → (K w.params).In h)
    (F : ∀ (w : World) (mg : Str → Option Value) (fa : Addr) (h : Heap), (K w.params).In h → h.Ns mainGlobals mg → mg d.name = some (.ref fa) →
      ∃ fd : FuncData, (∀ (s : Shared) (u : Value), BindsTo s fd ⟨[u], []⟩ [(x, u)]) ∧ ∀ base : Heap, (K w.params).In base → base.Ns mainGlobals mg → FnOk l.prog w (K w.params) mg base (L2.CX l.prog w) k fa fd [x] (spL (K w.params))) :
    PySem.W.WalkO q loose XP YP l.row.toRowW d [] (fun f vs => PySem.call f vs) :=
  L2.walk_of (K := K) (CX := fun w => L2.CX l.prog w) (sp := fun w => spL (K w.params)) hn (by decide) hdf hr hY F (fun w H a ns h1 _ h3 => ⟨a, ns, rfl, h1, h3, fun _ => rfl⟩) fun w H s e s' h => no_exc h
theorem cv_int {K : PySem.W.Frag} {ca : Str → Addr} {i : Int} {t : Tok} : ∃ v : V, RelV v (.int i t) ∧ ∀ H, Rep K ca H v (.int i) := ⟨.int i, ⟨t, rfl⟩, fun H => .int i⟩
theorem cv_str {K : PySem.W.Frag} {ca : Str → Addr} {i : Str} {t : Tok} : ∃ v : V, RelV v (.str i t) ∧ ∀ H, Rep K ca H v (.str i) := ⟨.str i, ⟨t, rfl⟩, fun H => .str i⟩
end Mir
set_option Elab.async false
set_option linter.all false
set_option maxRecDepth 100000
set_option maxHeartbeats 4000000
/-! Mirror layer, part T: mirrors evaluated by simp. -/
namespace Mir
open PySem PySem.Spec L2
variable {ρ : Type} [Rsc ρ] {env : Env ρ} {a b d m : ME ρ} {p q : MT ρ} {s t : MS ρ}

@[simp] theorem SV.toD_dat (x : D) : (SV.dat x : SV ρ).toD = some x := rfl
@[simp] theorem SV.toD_lst (x : List D) : (SV.lst x : SV ρ).toD = some (.lst x) := rfl
/-- a value as data -/
def datOf (s : SV ρ) (env : Env ρ) : Rs ρ D := match s.toD with
  | some d => .ok d env
  | none => .bad
@[simp] theorem datOf_dat (x : D) : datOf (.dat x) env = .ok x env := rfl
@[simp] theorem datOf_lst (x : List D) : datOf (.lst x) env = .ok (.lst x) env := rfl
@[simp] theorem toD_ev : toD m env = (m env).bind datOf := rfl
@[simp] theorem thenS_ok {α : Type} (x : α) (f : α → Env ρ → Sr ρ) : (Rs.ok x env).thenS f = f x env := rfl
@[simp] theorem thenS_exc {α : Type} (c : Str) (f : α → Env ρ → Sr ρ) : (Rs.exc c env : Rs ρ α).thenS f = .exc c env := rfl
@[simp] theorem mVar_ev (i : Nat) : mVar i env = (match env[i]? with | some (.dat d) => .ok (.dat d) env | _ => .bad) := rfl
@[simp] theorem mC_ev (x : D) : mC x env = .ok (.dat x) env := rfl
@[simp] theorem mFrz_ev : mFrz m env = (toD m env).bind fun d env => .ok (.dat d) env := rfl
/-- an answer that may be none -/
def ansOf (s : Option (SV ρ)) (env : Env ρ) : Rs ρ (SV ρ) := match s with
  | some s => .ok s env
  | none => .bad
@[simp] theorem ansOf_some (s : SV ρ) : ansOf (some s) env = .ok s env := rfl
@[simp] theorem mOp_ev (f : D → D → Option (SV ρ)) : mOp f a b env = (toD a env).bind fun x env => (toD b env).bind fun y env => ansOf (f x y) env := rfl
@[simp] theorem mUn_ev (f : D → Option (SV ρ)) : mUn f a env = (toD a env).bind fun x env => ansOf (f x) env := rfl
@[simp] theorem mArgs_nil_ev : mArgs ([] : List (ME ρ)) env = .ok [] env := rfl
@[simp] theorem mArgs_cons_ev (r : List (ME ρ)) : mArgs (m :: r) env = (toD m env).bind fun d env => (mArgs r env).bind fun ds env => .ok (d :: ds) env := rfl
@[simp] theorem mBlt_ev (f : List D → Option (SV ρ)) (as : MA ρ) : mBlt f as env = (as env).bind fun ds env => ansOf (f ds) env := rfl
def blOf (d : D) (env : Env ρ) : Rs ρ Bool := match d with
  | .bl b => .ok b env
  | _ => .bad
@[simp] theorem blOf_bl (b : Bool) : blOf (.bl b) env = .ok b env := rfl
@[simp] theorem mTest_ev : mTest m env = (toD m env).bind blOf := rfl
@[simp] theorem mAnd_ev : mAnd p q env = (p env).bind fun x env => if x = true then q env else .ok false env := rfl
@[simp] theorem mOr_ev : mOr p q env = (p env).bind fun x env => if x = true then .ok true env else q env := rfl
@[simp] theorem mNot_ev : mNot p env = (p env).bind fun x env => .ok (!x) env := rfl
@[simp] theorem mIf_ev : mIf p a b env = (p env).bind fun x env => if x = true then a env else b env := rfl
@[simp] theorem mAndV_ev : mAndV a b env = (toD a env).bind fun x env => (blOf x env).bind fun x env => if x = true then b env else .ok (.dat (.bl false)) env := by
  unfold mAndV; congr 1; funext x env; cases x <;> rfl
@[simp] theorem mOrV_ev : mOrV a b env = (toD a env).bind fun x env => (blOf x env).bind fun x env => if x = true then .ok (.dat (.bl true)) env else b env := by
  unfold mOrV; congr 1; funext x env; cases x <;> rfl
@[simp] theorem mNotV_ev : mNotV a env = (toD a env).bind fun x env => (blOf x env).bind fun x env => .ok (.dat (.bl (!x))) env := by
  unfold mNotV; congr 1; funext x env; cases x <;> rfl
def intOf (d : D) (env : Env ρ) : Rs ρ Int := match d with
  | .int b => .ok b env
  | _ => .bad
@[simp] theorem intOf_int (b : Int) : intOf (.int b) env = .ok b env := rfl
theorem mChain_ev' (g g' : Int → Int → Bool) {i j l : Int} {e1 e2 e3 : Env ρ} (h1 : toD a env = .ok (.int i) e1) (h2 : toD b e1 = .ok (.int j) e2) (h3 : toD d e2 = .ok (.int l) e3) : mChain g g' a b d env = if g i j = true then .ok (.dat (.bl (g' j l))) e3 else .ok (.dat (.bl false)) e2 := by
  unfold mChain; rw [h1]; simp only [Rs.bind_ok]; rw [h2]; simp only [Rs.bind_ok]
  split
  · rw [h3]; rfl
  · rfl
@[simp] theorem mTup_ev (as : MA ρ) : mTup as env = (as env).bind fun ds env => if ds.length ≤ sizeLine then .ok (.dat (.tup ds)) env else .bad := rfl
@[simp] theorem mLst_ev (as : MA ρ) : mLst as env = (as env).bind fun ds env => if ds.length ≤ sizeLine then .ok (.lst ds) env else .bad := rfl
@[simp] theorem mNoPart_ev : mNoPart env = .ok none env := rfl
@[simp] theorem mPart_ev : mPart m env = (toD m env).bind fun d env => (intOf d env).bind fun i env => .ok (some i) env := by
  unfold mPart; congr 1; funext x env; cases x <;> rfl
@[simp] theorem mSl_ev (lo hi : Env ρ → Rs ρ (Option Int)) : mSl m lo hi env = (toD m env).bind fun d env => (lo env).bind fun l env => (hi env).bind fun u env => ansOf (dSl d l u) env := rfl
@[simp] theorem mSt_ev (lo hi st : Env ρ → Rs ρ (Option Int)) : mSt m lo hi st env = (toD m env).bind fun d env => (lo env).bind fun l env => (hi env).bind fun u env => (st env).bind fun k env => ansOf (dSt d l u k) env := rfl
/-! statements -/
@[simp] theorem sNext_ev : sNext env = .nx env := rfl
/-- what comes behind a statement -/
def Sr.andThen (r : Sr ρ) (n : MS ρ) : Sr ρ := match r with
  | .nx env => n env
  | r => r
@[simp] theorem andThen_nx (n : MS ρ) : (Sr.nx env).andThen n = n env := rfl
@[simp] theorem andThen_rt (x : SV ρ) (n : MS ρ) : (Sr.rt x env).andThen n = .rt x env := rfl
@[simp] theorem andThen_exc (x : Str) (n : MS ρ) : (Sr.exc x env).andThen n = .exc x env := rfl
@[simp] theorem sSeq_ev : sSeq s t env = (s env).andThen t := by unfold sSeq Sr.andThen; cases s env <;> rfl
@[simp] theorem sIf_ev : sIf p s t env = (p env).thenS fun b env => if b = true then s env else t env := rfl
@[simp] theorem sExpr_ev : sExpr m env = (m env).thenS fun _ env => .nx env := rfl
@[simp] theorem sRet_ev : sRet m env = (m env).thenS fun s env => .rt s env := rfl
@[simp] theorem sRetN_ev : (sRetN : MS ρ) env = .rt (.dat .non) env := rfl
@[simp] theorem sAsg_ev (i : Nat) : sAsg i m env = (m env).thenS fun s env => .nx (env.set i s) := rfl
@[simp] theorem sAsgG_ev (g : D → Env ρ → Rs ρ Unit) : sAsgG g m env = (toD m env).thenS fun d env => (g d env).thenS fun _ env => .nx env := rfl
@[simp] theorem sRaise_ev (x : Str) : (sRaise x : MS ρ) env = .exc x env := rfl
@[simp] theorem sGhost_ev (f : Env ρ → Env ρ) : sGhost f s env = s (f env) := rfl
@[simp] theorem tgN_ev (i : Nat) (x : D) : tgN i x env = .ok () (env.set i (.dat x)) := rfl
@[simp] theorem tgNil_ev : tgNil (ρ := ρ) [] env = .ok () env := rfl
@[simp] theorem tgCons_ev (g : D → Env ρ → Rs ρ Unit) (h : List D → Env ρ → Rs ρ Unit) (x : D) (r : List D) : tgCons g h (x :: r) env = (g x env).bind fun _ env => h r env := rfl
@[simp] theorem sFor_ev (src : MA ρ) (g : D → Env ρ → Rs ρ Unit) : sFor src g s env = (src env).thenS fun xs env => forL g s xs env := rfl
theorem srcSeq_ev : srcSeq m env = (toD m env).bind fun d env => (match d with | .tup xs => .ok xs env | .lst xs => .ok xs env | .scr ns => .ok (ns.map .int) env | _ => .bad) := rfl
/-! sources, targets -/
def itemsOf (d : D) (env : Env ρ) : Rs ρ (List D) := match d with
  | .tup xs => .ok xs env
  | .lst xs => .ok xs env
  | .scr ns => .ok (ns.map .int) env
  | _ => .bad
@[simp] theorem itemsOf_tup (xs : List D) : itemsOf (.tup xs) env = .ok xs env := rfl
@[simp] theorem itemsOf_lst (xs : List D) : itemsOf (.lst xs) env = .ok xs env := rfl
@[simp] theorem srcSeq_ev2 : srcSeq m env = (toD m env).bind itemsOf := rfl
@[simp] theorem srcEnum_ev : srcEnum m env = (toD m env).bind fun d env => (match d with | .tup xs => .ok (enumD xs) env | .lst xs => .ok (enumD xs) env | _ => .bad) := rfl
theorem srcRng1_ev : srcRng1 m env = (toD m env).bind fun d env => (intOf d env).bind fun j env => if small62 j = true then .ok (rangeD 0 j.toNat) env else .bad := by
  unfold srcRng1; congr 1; funext x env; cases x <;> rfl
theorem srcRng2_ev : srcRng2 a b env = (toD a env).bind fun d env => (toD b env).bind fun d2 env => (intOf d env).bind fun i env => (intOf d2 env).bind fun j env => if (small62 i && small62 j) = true then .ok (rangeD i (j - i).toNat) env else .bad := by
  unfold srcRng2; congr 1; funext x env; congr 1; funext y env; cases x <;> cases y <;> rfl
@[simp] theorem tgT_ev (n : Nat) (g : List D → Env ρ → Rs ρ Unit) (ds : List D) : tgT n g (.tup ds) env = if ds.length = n then g ds env else .bad := rfl
@[simp] theorem mRangeList_ev : mRangeList m env = (toD m env).bind fun d env => (intOf d env).bind fun j env => if 0 ≤ j ∧ j.toNat ≤ 16777216 then .ok (.lst (rangeD 0 j.toNat)) env else .bad := by
  unfold mRangeList; congr 1; funext x env; cases x <;> rfl
/-! own lists -/
def ownOf (s : Option (SV ρ)) (env : Env ρ) : Rs ρ (List D) := match s with
  | some (.lst xs) => .ok xs env
  | _ => .bad
@[simp] theorem ownOf_lst (xs : List D) : ownOf (some (.lst xs)) env = .ok xs env := rfl
@[simp] theorem mIxOwn_ev (i : Nat) : mIxOwn i b env = (ownOf env[i]? env).bind fun _ env => (toD b env).bind fun d env => (ownOf env[i]? env).bind fun xs env => (intOf d env).bind fun j env => ansOf ((atI xs j).map .dat) env := by
  unfold mIxOwn
  cases h : env[i]? with
  | none => rfl
  | some s =>
    cases s with
    | lst ys =>
      show (toD b env).bind _ = (toD b env).bind _
      congr 1; funext x e
      cases h2 : e[i]? with
      | none => rfl
      | some s2 =>
        cases s2 with
        | lst zs =>
          cases x with
          | int j => show (match atI zs j with | some d => Rs.ok (SV.dat d) e | none => .bad) = ansOf ((atI zs j).map .dat) e; cases atI zs j <;> rfl
          | _ => rfl
        | _ => rfl
    | _ => rfl
@[simp] theorem mListOwn_ev (i : Nat) : mListOwn i env = (ownOf env[i]? env).bind fun xs env => .ok (.lst xs) env := by
  unfold mListOwn
  cases h : env[i]? with
  | none => rfl
  | some s => cases s <;> rfl
@[simp] theorem mTupOwn_ev (i : Nat) : mTupOwn i env = (ownOf env[i]? env).bind fun xs env => .ok (.dat (.tup xs)) env := by
  unfold mTupOwn
  cases h : env[i]? with
  | none => rfl
  | some s => cases s <;> rfl
@[simp] theorem mMove_ev (i : Nat) : mMove i env = (ownOf env[i]? env).bind fun xs env => .ok (.lst xs) (env.set i .no) := by
  unfold mMove
  cases h : env[i]? with
  | none => rfl
  | some s => cases s <;> rfl
def pairOf (s : Option (List D × D)) (i : Nat) (env : Env ρ) : Rs ρ (SV ρ) := match s with
  | some (ys, d) => .ok (.dat d) (env.set i (.lst ys))
  | none => .bad
@[simp] theorem pairOf_some (ys : List D) (x : D) (i : Nat) : pairOf (some (ys, x)) i env = .ok (.dat x) (env.set i (.lst ys)) := rfl
theorem mOwn_ev (i : Nat) (f : List D → List D → Option (List D × D)) (as : MA ρ) : mOwn i f as env = (ownOf env[i]? env).bind fun _ env => (as env).bind fun ds env => (ownOf env[i]? env).bind fun xs env => pairOf (f xs ds) i env := by
  unfold mOwn
  cases h : env[i]? with
  | none => rfl
  | some s =>
    cases s with
    | lst ys =>
      show (as env).bind _ = (as env).bind _
      congr 1; funext x e
      cases h2 : e[i]? with
      | none => rfl
      | some s2 =>
        cases s2 with
        | lst zs =>
          show _ = pairOf (f zs x) i e
          dsimp only
          cases f zs x <;> rfl
        | _ => rfl
    | _ => rfl
@[simp] theorem tgIx_ev (i : Nat) (x : D) : tgIx i b x env = (ownOf env[i]? env).bind fun _ env => (toD b env).bind fun d env => (ownOf env[i]? env).bind fun xs env => (intOf d env).bind fun j env => (match ixN xs.length j with | some k => .ok () (env.set i (.lst (xs.set k x))) | none => .bad) := by
  unfold tgIx
  cases h : env[i]? with
  | none => rfl
  | some s =>
    cases s with
    | lst ys =>
      show (toD b env).bind _ = (toD b env).bind _
      congr 1; funext x e
      cases h2 : e[i]? with
      | none => rfl
      | some s2 =>
        cases s2 with
        | lst zs => cases x <;> rfl
        | _ => rfl
    | _ => rfl
/-! calls -/
def callEnd (r : Rs ρ (SV ρ)) (as : List (AK ρ)) (env1 : Env ρ) : Rs ρ (SV ρ) := match r with
  | .ok s args' => .ok s (akBack as args' env1)
  | .exc x args' => .exc x (akBack as args' env1)
  | .bad => .bad
@[simp] theorem callEnd_ok (x : SV ρ) (e : Env ρ) (as : List (AK ρ)) (env1 : Env ρ) : callEnd (.ok x e) as env1 = .ok x (akBack as e env1) := rfl
@[simp] theorem callEnd_exc (x : Str) (e : Env ρ) (as : List (AK ρ)) (env1 : Env ρ) : callEnd (.exc x e) as env1 = .exc x (akBack as e env1) := rfl
@[simp] theorem mCall_ev (f : MF ρ) (as : List (AK ρ)) : mCall f as env = (akVals as env).bind fun ss env1 => callEnd (f (akFill as ss env1)) as env1 := rfl
@[simp] theorem akVals_nil : akVals ([] : List (AK ρ)) env = .ok [] env := rfl
@[simp] theorem akVals_e (r : List (AK ρ)) : akVals (.e m :: r) env = (toD m env).bind fun d env => (akVals r env).bind fun ss env => .ok (.dat d :: ss) env := rfl
theorem akVals_io (j : Nat) (r : List (AK ρ)) : akVals (.io j :: r) env = (match env[j]? with | some s => if s.isOwn = true then (akVals r env).bind fun ss env => .ok (.no :: ss) env else .bad | none => .bad) := rfl
@[simp] theorem isOwn_lst (xs : List D) : (SV.lst xs : SV ρ).isOwn = true := rfl
@[simp] theorem isOwn_res (r : ρ) : (SV.res r : SV ρ).isOwn = true := rfl
@[simp] theorem akFill_nil (e : Env ρ) : akFill ([] : List (AK ρ)) [] e = [] := rfl
@[simp] theorem akFill_e (r : List (AK ρ)) (x : SV ρ) (ss : List (SV ρ)) (e : Env ρ) : akFill (.e m :: r) (x :: ss) e = x :: akFill r ss e := rfl
@[simp] theorem akFill_io (j : Nat) (r : List (AK ρ)) (x : SV ρ) (ss : List (SV ρ)) (e : Env ρ) : akFill (.io j :: r) (x :: ss) e = (e[j]?.getD .no) :: akFill r ss e := rfl
@[simp] theorem akBack_nil (ss : List (SV ρ)) (e : Env ρ) : akBack ([] : List (AK ρ)) ss e = e := by cases ss <;> rfl
@[simp] theorem akBack_e (r : List (AK ρ)) (x : SV ρ) (ss : List (SV ρ)) (e : Env ρ) : akBack (.e m :: r) (x :: ss) e = akBack r ss e := rfl
@[simp] theorem akBack_io (j : Nat) (r : List (AK ρ)) (x : SV ρ) (ss : List (SV ρ)) (e : Env ρ) : akBack (.io j :: r) (x :: ss) e = akBack r ss (e.set j x) := rfl
/-- a def's end -/
def fnEnd (io : List Nat) (n : Nat) (r : Sr ρ) : Rs ρ (SV ρ) := match r with
  | .nx env => .ok (.dat .non) (keep io n env)
  | .rt s env => .ok s (keep io n env)
  | .exc x env => .exc x (keep io n env)
  | _ => .bad
@[simp] theorem fnEnd_nx (io : List Nat) (n : Nat) : fnEnd io n (.nx env) = .ok (.dat .non) (keep io n env) := rfl
@[simp] theorem fnEnd_rt (io : List Nat) (n : Nat) (x : SV ρ) : fnEnd io n (.rt x env) = .ok x (keep io n env) := rfl
@[simp] theorem fnEnd_exc (io : List Nat) (n : Nat) (x : Str) : fnEnd io n (.exc x env) = .exc x (keep io n env) := rfl
theorem mFn_ev (io : List Nat) (n nN : Nat) (body : MS ρ) (args : List (SV ρ)) : mFn io n nN body args = fnEnd io n (body (args ++ List.replicate (nN - n) .no)) := rfl
@[simp] theorem keep_nil (n : Nat) : keep [] n env = List.replicate n .no := by
  unfold keep
  apply List.ext_getElem?
  intro i
  rw [List.getElem?_map, List.getElem?_replicate]
  by_cases h : i < n
  · rw [List.getElem?_range h, if_pos h]; rfl
  · rw [List.getElem?_eq_none (by simpa using h), if_neg h]; rfl
/-! operations -/
@[simp] theorem dAdd_int (i j : Int) : dAdd (ρ := ρ) (.int i) (.int j) = some (.dat (.int (i + j))) := rfl
@[simp] theorem dAdd_tup (xs ys : List D) : dAdd (ρ := ρ) (.tup xs) (.tup ys) = if xs.length + ys.length ≤ sizeLine then some (.dat (.tup (xs ++ ys))) else none := rfl
@[simp] theorem dAdd_lst (xs ys : List D) : dAdd (ρ := ρ) (.lst xs) (.lst ys) = if xs.length + ys.length ≤ sizeLine then some (.lst (xs ++ ys)) else none := rfl
@[simp] theorem dSub_int (i j : Int) : dSub (ρ := ρ) (.int i) (.int j) = some (.dat (.int (i - j))) := rfl
@[simp] theorem dMul_int (i j : Int) : dMul (ρ := ρ) (.int i) (.int j) = if i.natAbs.log2 + j.natAbs.log2 < 1000000 then some (.dat (.int (i * j))) else none := rfl
@[simp] theorem dFdiv_int (i j : Int) : dFdiv (ρ := ρ) (.int i) (.int j) = (if 0 < j ∧ j.natAbs.log2 < 9000 then some (.int (i / j)) else none : Option D).map .dat := rfl
@[simp] theorem dMod_int (i j : Int) : dMod (ρ := ρ) (.int i) (.int j) = (if 0 < j then some (.int (i % j)) else none : Option D).map .dat := rfl
@[simp] theorem dPow_int (i j : Int) : dPow (ρ := ρ) (.int i) (.int j) = (if 0 ≤ j ∧ j ≤ 1000000 ∧ i.natAbs < 2 ^ 64 then some (.int (i ^ j.toNat)) else none : Option D).map .dat := rfl
@[simp] theorem dLt_int (i j : Int) : dLt (ρ := ρ) (.int i) (.int j) = some (.dat (.bl (decide (i < j)))) := rfl
@[simp] theorem dLe_int (i j : Int) : dLe (ρ := ρ) (.int i) (.int j) = some (.dat (.bl (decide (i ≤ j)))) := rfl
@[simp] theorem dGt_int (i j : Int) : dGt (ρ := ρ) (.int i) (.int j) = some (.dat (.bl (decide (j < i)))) := rfl
@[simp] theorem dGe_int (i j : Int) : dGe (ρ := ρ) (.int i) (.int j) = some (.dat (.bl (decide (j ≤ i)))) := rfl
@[simp] theorem dNeg_int (i : Int) : dNeg (ρ := ρ) (.int i) = some (.dat (.int (-i))) := rfl
@[simp] theorem dIs_non (x : D) : dIs (ρ := ρ) x .non = some (.dat (.bl (isNon x))) := by cases x <;> rfl
@[simp] theorem dIsNot_non (x : D) : dIsNot (ρ := ρ) x .non = some (.dat (.bl (!isNon x))) := by cases x <;> rfl
@[simp] theorem isNon_non : isNon .non = true := rfl
@[simp] theorem isNon_int (i : Int) : isNon (.int i) = false := rfl
@[simp] theorem isNon_tup (i : List D) : isNon (.tup i) = false := rfl
@[simp] theorem dIx_tup (xs : List D) (i : Int) : dIx (ρ := ρ) (.tup xs) (.int i) = (atI xs i).map .dat := rfl
@[simp] theorem dIx_lst (xs : List D) (i : Int) : dIx (ρ := ρ) (.lst xs) (.int i) = (atI xs i).map .dat := rfl
@[simp] theorem dIx_scr (xs : List Int) (i : Int) : dIx (ρ := ρ) (.scr xs) (.int i) = (atI xs i).map fun n => .dat (.int n) := rfl
@[simp] theorem dLen_tup (xs : List D) : dLen (ρ := ρ) [.tup xs] = some (.dat (.int xs.length)) := rfl
@[simp] theorem dLen_lst (xs : List D) : dLen (ρ := ρ) [.lst xs] = some (.dat (.int xs.length)) := rfl
@[simp] theorem dLen_scr (xs : List Int) : dLen (ρ := ρ) [.scr xs] = some (.dat (.int xs.length)) := rfl
@[simp] theorem dListOf_tup (xs : List D) : dListOf (ρ := ρ) [.tup xs] = some (.lst xs) := rfl
@[simp] theorem dListOf_lst (xs : List D) : dListOf (ρ := ρ) [.lst xs] = some (.lst xs) := rfl
@[simp] theorem dTupOf_tup (xs : List D) : dTupOf (ρ := ρ) [.tup xs] = some (.dat (.tup xs)) := rfl
@[simp] theorem dTupOf_lst (xs : List D) : dTupOf (ρ := ρ) [.lst xs] = some (.dat (.tup xs)) := rfl
@[simp] theorem dMax2_int (i j : Int) : dMax2 (ρ := ρ) [.int i, .int j] = some (.dat (.int (max i j))) := by
  show some (SV.dat (D.int (if j > i then j else i))) = _
  congr 3; rw [Int.max_def]; split <;> split <;> omega
@[simp] theorem dMin2_int (i j : Int) : dMin2 (ρ := ρ) [.int i, .int j] = some (.dat (.int (min i j))) := by
  show some (SV.dat (D.int (if j < i then j else i))) = _
  congr 3; rw [Int.min_def]; split <;> split <;> omega
theorem asBls_bls : ∀ bs : List Bool, asBls (bs.map .bl) = some bs
  | [] => rfl
  | b :: r => by show (asBls (r.map .bl)).map (b :: ·) = _; rw [asBls_bls r]; rfl
@[simp] theorem dAll_bls (bs : List Bool) : dAll (ρ := ρ) [.lst (bs.map .bl)] = some (.dat (.bl (bs.all id))) := by
  show (asBls (bs.map .bl)).map _ = _
  rw [asBls_bls]; rfl
@[simp] theorem dAny_bls (bs : List Bool) : dAny (ρ := ρ) [.lst (bs.map .bl)] = some (.dat (.bl (bs.any id))) := by
  show (asBls (bs.map .bl)).map _ = _
  rw [asBls_bls]; rfl
@[simp] theorem dSl_tup (xs : List D) (lo hi : Option Int) : dSl (ρ := ρ) (.tup xs) lo hi = some (.dat (.tup (cutD xs lo hi))) := rfl
@[simp] theorem dSl_lst (xs : List D) (lo hi : Option Int) : dSl (ρ := ρ) (.lst xs) lo hi = some (.lst (cutD xs lo hi)) := rfl
end Mir
set_option Elab.async false
set_option linter.all false
set_option maxRecDepth 100000
set_option maxHeartbeats 4000000
/-! Mirror layer, part U: equality of data, kinds, items, loops, in plain terms. -/
namespace Mir
open PySem PySem.Spec L2
variable {ρ : Type} [Rsc ρ]

/-! ### equality -/
mutual
def eqD : D → D → Bool
  | .non, .non => true
  | .bl a, .bl b => a == b
  | .bl a, .int j => decide ((if a = true then 1 else 0) = j)
  | .int i, .bl b => decide (i = (if b = true then 1 else 0))
  | .int i, .int j => decide (i = j)
  | .str x, .str y => x == y
  | .lst xs, .lst ys => eqDs xs ys
  | .tup xs, .tup ys => eqDs xs ys
  | _, _ => false
def eqDs : List D → List D → Bool
  | [], [] => true
  | x :: xs, y :: ys => eqD x y && eqDs xs ys
  | _, _ => false
end
/-- data without dicts and objects, n deep at most -/
def sm : Nat → D → Bool
  | _, .non => true
  | _, .bl _ => true
  | _, .int _ => true
  | _, .str x => PyData.strOk x
  | n + 1, .tup xs => xs.all (sm n)
  | n + 1, .lst xs => xs.all (sm n)
  | _, _ => false
theorem toPyA_all {n : Nat} (f : ∀ d, sm n d = true → ∃ p, toPy d = some p ∧ p.canLay0 = true ∧ p.depth ≤ n) : ∀ xs : List D, xs.all (sm n) = true → ∃ ps, toPyA xs = some ps ∧ PyData.canLayAll0 ps = true ∧ PyData.depthAll ps ≤ n
  | [], _ => ⟨[], rfl, rfl, Nat.zero_le _⟩
  | x :: xs, h => by
    rw [List.all_cons, Bool.and_eq_true] at h
    obtain ⟨p, h1, h2, h3⟩ := f x h.1
    obtain ⟨ps, k1, k2, k3⟩ := toPyA_all f xs h.2
    refine ⟨p :: ps, by unfold toPyA; rw [h1, k1], ?_, ?_⟩
    · simp only [PyData.canLayAll0, h2, k2, Bool.and_self]
    · simp only [PyData.depthAll]; omega
theorem sm_py : ∀ (n : Nat) (d : D), sm n d = true → ∃ p, toPy d = some p ∧ p.canLay0 = true ∧ p.depth ≤ n := by
  intro n
  induction n with
  | zero =>
    intro d h
    cases d with
    | non => exact ⟨_, rfl, rfl, Nat.le_refl _⟩
    | bl b => exact ⟨_, rfl, rfl, Nat.le_refl _⟩
    | int b => exact ⟨_, rfl, rfl, Nat.le_refl _⟩
    | str b => exact ⟨_, rfl, h, Nat.le_refl _⟩
    | _ => cases h
  | succ n ih =>
    intro d h
    cases d with
    | non => exact ⟨_, rfl, rfl, Nat.zero_le _⟩
    | bl b => exact ⟨_, rfl, rfl, Nat.zero_le _⟩
    | int b => exact ⟨_, rfl, rfl, Nat.zero_le _⟩
    | str b => exact ⟨_, rfl, h, Nat.zero_le _⟩
    | tup xs =>
      obtain ⟨ps, k1, k2, k3⟩ := toPyA_all ih xs h
      exact ⟨.tuple ps, by unfold toPy; rw [k1]; rfl, k2, by simp only [PyData.depth]; omega⟩
    | lst xs =>
      obtain ⟨ps, k1, k2, k3⟩ := toPyA_all ih xs h
      exact ⟨.list ps, by unfold toPy; rw [k1]; rfl, k2, by simp only [PyData.depth]; omega⟩
    | _ => cases h
mutual
theorem eqv_eqD : ∀ (x y : D) (p q : PyData), toPy x = some p → toPy y = some q → PyData.eqv p q = eqD x y
  | x, y, p, q, h1, h2 => by
    cases x with
    | dct => cases h1
    | ins => cases h1
    | scr => cases h1
    | tup xs =>
      unfold toPy at h1
      cases z : toPyA xs with
      | none => rw [z] at h1; cases h1
      | some ps =>
        rw [z] at h1
        cases h1
        cases y with
        | tup ys =>
          unfold toPy at h2
          cases z2 : toPyA ys with
          | none => rw [z2] at h2; cases h2
          | some qs => rw [z2] at h2; cases h2; simp only [PyData.eqv, eqD]; exact eqvs_eqDs xs ys ps qs z z2
        | lst ys =>
          unfold toPy at h2
          cases z2 : toPyA ys with
          | none => rw [z2] at h2; cases h2
          | some qs => rw [z2] at h2; cases h2; simp only [PyData.eqv, eqD]
        | dct => cases h2
        | ins => cases h2
        | scr => cases h2
        | _ => cases h2; simp only [PyData.eqv, eqD]
    | lst xs =>
      unfold toPy at h1
      cases z : toPyA xs with
      | none => rw [z] at h1; cases h1
      | some ps =>
        rw [z] at h1
        cases h1
        cases y with
        | lst ys =>
          unfold toPy at h2
          cases z2 : toPyA ys with
          | none => rw [z2] at h2; cases h2
          | some qs => rw [z2] at h2; cases h2; simp only [PyData.eqv, eqD]; exact eqvs_eqDs xs ys ps qs z z2
        | tup ys =>
          unfold toPy at h2
          cases z2 : toPyA ys with
          | none => rw [z2] at h2; cases h2
          | some qs => rw [z2] at h2; cases h2; simp only [PyData.eqv, eqD]
        | dct => cases h2
        | ins => cases h2
        | scr => cases h2
        | _ => cases h2; simp only [PyData.eqv, eqD]
    | _ =>
      cases h1
      cases y with
      | tup ys =>
        unfold toPy at h2
        cases z2 : toPyA ys with
        | none => rw [z2] at h2; cases h2
        | some qs => rw [z2] at h2; cases h2; simp only [PyData.eqv, eqD]
      | lst ys =>
        unfold toPy at h2
        cases z2 : toPyA ys with
        | none => rw [z2] at h2; cases h2
        | some qs => rw [z2] at h2; cases h2; simp only [PyData.eqv, eqD]
      | dct => cases h2
      | ins => cases h2
      | scr => cases h2
      | _ => cases h2; simp only [PyData.eqv, eqD] <;> rfl
theorem eqvs_eqDs : ∀ (xs ys : List D) (ps qs : List PyData), toPyA xs = some ps → toPyA ys = some qs → PyData.eqvAll ps qs = eqDs xs ys
  | [], [], _, _, h1, h2 => by cases (show some [] = some _ from h1); cases (show some [] = some _ from h2); rfl
  | [], y :: ys, _, qs, h1, h2 => by
    cases (show some [] = some _ from h1)
    unfold toPyA at h2
    cases z1 : toPy y with
    | none => rw [z1] at h2; cases h2
    | some q =>
      cases z2 : toPyA ys with
      | none => rw [z1, z2] at h2; cases h2
      | some r => rw [z1, z2] at h2; cases h2; simp only [PyData.eqvAll, eqDs]
  | x :: xs, [], ps, _, h1, h2 => by
    cases (show some [] = some _ from h2)
    unfold toPyA at h1
    cases z1 : toPy x with
    | none => rw [z1] at h1; cases h1
    | some q =>
      cases z2 : toPyA xs with
      | none => rw [z1, z2] at h1; cases h1
      | some r => rw [z1, z2] at h1; cases h1; simp only [PyData.eqvAll, eqDs]
  | x :: xs, y :: ys, ps, qs, h1, h2 => by
    unfold toPyA at h1 h2
    cases z1 : toPy x with
    | none => rw [z1] at h1; cases h1
    | some p =>
      cases z2 : toPyA xs with
      | none => rw [z1, z2] at h1; cases h1
      | some pr =>
        cases z3 : toPy y with
        | none => rw [z3] at h2; cases h2
        | some q =>
          cases z4 : toPyA ys with
          | none => rw [z3, z4] at h2; cases h2
          | some qr =>
            rw [z1, z2] at h1
            rw [z3, z4] at h2
            cases h1
            cases h2
            simp only [PyData.eqvAll, eqDs]
            rw [eqv_eqD x y p q z1 z3, eqvs_eqDs xs ys pr qr z2 z4]
end
theorem deq_sm {x y : D} (hx : sm 64 x = true) (hy : sm 64 y = true) : deq x y = some (eqD x y) := by
  obtain ⟨p, h1, h2, h3⟩ := sm_py 64 x hx
  obtain ⟨q, k1, k2, k3⟩ := sm_py 64 y hy
  unfold deq
  rw [h1, k1]
  dsimp only
  have e1 : SeqAt.shaped p = true := by unfold SeqAt.shaped; rw [h2, decide_eq_true h3]; rfl
  have e2 : SeqAt.shaped q = true := by unfold SeqAt.shaped; rw [k2, decide_eq_true k3]; rfl
  rw [if_pos ⟨e1, e2⟩, eqv_eqD x y p q h1 k1]
theorem dEq_sm {x y : D} (hx : sm 64 x = true) (hy : sm 64 y = true) : dEq (ρ := ρ) x y = some (.dat (.bl (eqD x y))) := by unfold dEq; rw [deq_sm hx hy]; rfl
theorem dNe_sm {x y : D} (hx : sm 64 x = true) (hy : sm 64 y = true) : dNe (ρ := ρ) x y = some (.dat (.bl (!eqD x y))) := by unfold dNe; rw [deq_sm hx hy]; rfl
theorem any_eqv : ∀ (ys : List D) (qs : List PyData) (x : D) (p : PyData), toPyA ys = some qs → toPy x = some p → (qs.any fun z => PyData.eqv z p) = ys.any fun z => eqD z x
  | [], qs, x, p, h, h1 => by cases (show some [] = some _ from h); rfl
  | y :: ys, qs, x, p, h, h1 => by
    unfold toPyA at h
    cases z1 : toPy y with
    | none => rw [z1] at h; cases h
    | some q =>
      cases z2 : toPyA ys with
      | none => rw [z1, z2] at h; cases h
      | some r =>
        rw [z1, z2] at h
        cases h
        rw [List.any_cons, List.any_cons, any_eqv ys r x p z2 h1, eqv_eqD y x q p z1 h1]
theorem isIn_sm {x : D} {ys : List D} (hx : sm 64 x = true) (hy : ys.all (sm 63) = true) : isIn x ys = some (ys.any fun z => eqD z x) := by
  obtain ⟨p, h1, h2, h3⟩ := sm_py 64 x hx
  obtain ⟨qs, k1, k2, k3⟩ := toPyA_all (sm_py 63) ys hy
  unfold isIn
  rw [h1, k1]
  dsimp only
  have e1 : SeqAt.shaped p = true := by unfold SeqAt.shaped; rw [h2, decide_eq_true h3]; rfl
  have e2 : SeqAt.shaped (.list qs) = true := by
    unfold SeqAt.shaped
    have e1 : (PyData.list qs).canLay0 = true := k2
    have e2 : (PyData.list qs).depth ≤ 64 := by simp only [PyData.depth]; omega
    rw [e1, decide_eq_true e2]; rfl
  rw [if_pos ⟨e1, e2⟩, any_eqv ys qs x p k1 h1]
theorem dIn_lst {x : D} {ys : List D} (hx : sm 64 x = true) (hy : ys.all (sm 63) = true) : dIn (ρ := ρ) x (.lst ys) = some (.dat (.bl (ys.any fun z => eqD z x))) := by
  unfold dIn elemsOf; simp only [Option.bind_some]; rw [isIn_sm hx hy]; rfl
theorem dIn_tup {x : D} {ys : List D} (hx : sm 64 x = true) (hy : ys.all (sm 63) = true) : dIn (ρ := ρ) x (.tup ys) = some (.dat (.bl (ys.any fun z => eqD z x))) := by
  unfold dIn elemsOf; simp only [Option.bind_some]; rw [isIn_sm hx hy]; rfl
theorem dNotIn_lst {x : D} {ys : List D} (hx : sm 64 x = true) (hy : ys.all (sm 63) = true) : dNotIn (ρ := ρ) x (.lst ys) = some (.dat (.bl (!ys.any fun z => eqD z x))) := by
  unfold dNotIn elemsOf; simp only [Option.bind_some]; rw [isIn_sm hx hy]; rfl
theorem dNotIn_tup {x : D} {ys : List D} (hx : sm 64 x = true) (hy : ys.all (sm 63) = true) : dNotIn (ρ := ρ) x (.tup ys) = some (.dat (.bl (!ys.any fun z => eqD z x))) := by
  unfold dNotIn elemsOf; simp only [Option.bind_some]; rw [isIn_sm hx hy]; rfl
theorem sm_mono : ∀ {n m : Nat} {d : D}, n ≤ m → sm n d = true → sm m d = true := by
  intro n
  induction n with
  | zero => intro m d _ h; cases m <;> cases d <;> first | exact h | cases h
  | succ n ih =>
    intro m d hm h
    cases m with
    | zero => omega
    | succ m =>
      cases d with
      | tup xs =>
        have h' : xs.all (sm n) = true := h
        show xs.all (sm m) = true
        rw [List.all_eq_true] at h' ⊢
        exact fun x hx => ih (by omega) (h' x hx)
      | lst xs =>
        have h' : xs.all (sm n) = true := h
        show xs.all (sm m) = true
        rw [List.all_eq_true] at h' ⊢
        exact fun x hx => ih (by omega) (h' x hx)
      | _ => exact h
@[simp] theorem sm_int (n : Nat) (i : Int) : sm n (.int i) = true := by cases n <;> rfl
@[simp] theorem sm_bl (n : Nat) (i : Bool) : sm n (.bl i) = true := by cases n <;> rfl
@[simp] theorem sm_non (n : Nat) : sm n .non = true := by cases n <;> rfl
@[simp] theorem sm_tup (n : Nat) (xs : List D) : sm (n + 1) (.tup xs) = xs.all (sm n) := rfl
@[simp] theorem sm_lst (n : Nat) (xs : List D) : sm (n + 1) (.lst xs) = xs.all (sm n) := rfl
@[simp] theorem eqD_int (i j : Int) : eqD (.int i) (.int j) = decide (i = j) := by simp only [eqD]
@[simp] theorem eqD_non_int (j : Int) : eqD .non (.int j) = false := by simp only [eqD]
@[simp] theorem eqD_int_non (j : Int) : eqD (.int j) .non = false := by simp only [eqD]
@[simp] theorem eqD_non : eqD .non .non = true := by simp only [eqD]
@[simp] theorem eqD_bl (i j : Bool) : eqD (.bl i) (.bl j) = (i == j) := by simp only [eqD]
@[simp] theorem eqD_tup (i j : List D) : eqD (.tup i) (.tup j) = eqDs i j := by simp only [eqD]
@[simp] theorem eqD_lst (i j : List D) : eqD (.lst i) (.lst j) = eqDs i j := by simp only [eqD]
@[simp] theorem eqD_tup_non (i : List D) : eqD (.tup i) .non = false := by simp only [eqD]
@[simp] theorem eqD_non_tup (i : List D) : eqD .non (.tup i) = false := by simp only [eqD]
@[simp] theorem eqDs_nil : eqDs [] [] = true := by simp only [eqDs]
@[simp] theorem eqDs_cons (x y : D) (xs ys : List D) : eqDs (x :: xs) (y :: ys) = (eqD x y && eqDs xs ys) := by simp only [eqDs]
@[simp] theorem eqDs_nil_cons (y : D) (ys : List D) : eqDs [] (y :: ys) = false := by simp only [eqDs]
@[simp] theorem eqDs_cons_nil (y : D) (ys : List D) : eqDs (y :: ys) [] = false := by simp only [eqDs]
/-- a row of things whose equality is that of what they bear -/
theorem eqDs_map {α : Type} [DecidableEq α] {f : α → D} (h : ∀ a b, eqD (f a) (f b) = decide (a = b)) : ∀ xs ys : List α, eqDs (xs.map f) (ys.map f) = decide (xs = ys)
  | [], [] => by simp
  | [], y :: ys => by simp
  | x :: xs, [] => by simp
  | x :: xs, y :: ys => by
    rw [List.map_cons, List.map_cons, eqDs_cons, h, eqDs_map h xs ys]
    simp [Bool.decide_and]
theorem any_map {α : Type} [DecidableEq α] {f : α → D} (h : ∀ a b, eqD (f a) (f b) = decide (a = b)) (x : α) (xs : List α) : (xs.map f).any (fun z => eqD z (f x)) = decide (x ∈ xs) := by
  rw [List.any_map, Bool.eq_iff_iff, List.any_eq_true, decide_eq_true_eq]
  constructor
  · rintro ⟨y, hy, e⟩
    have e' : decide (y = x) = true := by rw [← h]; exact e
    rw [decide_eq_true_eq] at e'
    subst e'; exact hy
  · exact fun hx => ⟨x, hx, by show eqD (f x) (f x) = true; rw [h]; simp⟩
theorem all_sm {α : Type} {f : α → D} {n : Nat} (h : ∀ a, sm n (f a) = true) (xs : List α) : (xs.map f).all (sm n) = true := by
  rw [List.all_map, List.all_eq_true]; exact fun x _ => h x
/-- numbers of places -/
def nD (k : Nat) : D := .int (k : Int)
@[simp] theorem eqD_nD (a b : Nat) : eqD (nD a) (nD b) = decide (a = b) := by unfold nD; rw [eqD_int]; exact decide_eq_decide.mpr Int.ofNat_inj
@[simp] theorem sm_nD (n a : Nat) : sm n (nD a) = true := sm_int _ _
end Mir
set_option Elab.async false
set_option linter.all false
set_option maxRecDepth 100000
set_option maxHeartbeats 4000000
/-! Mirror layer, part V: loops in plain terms; items; kinds. -/
namespace Mir
open PySem PySem.Spec L2
variable {ρ : Type} [Rsc ρ] {α : Type} {g : D → Env ρ → Rs ρ Unit} {tt : MT ρ} {me : ME ρ} {vs : List Nat} {src : MA ρ} {m : MS ρ} {enc : α → D}

/-! ### comprehensions -/
theorem compL_cons {x : D} {r : List D} {E : Env ρ} {acc : List D} : compL g tt me vs (x :: r) E acc = (match g x E with
    | .ok _ env1 => (match tt env1 with
      | .ok b env2 => if b = true then (match toD me env2 with
          | .ok d env3 => if acc.length < sizeLine then compL g tt me vs r (gForget vs env3) (acc ++ [d]) else .bad
          | _ => .bad) else compL g tt me vs r (gForget vs env2) acc
      | _ => .bad)
    | _ => .bad) := rfl
theorem compL_ok {E : Env ρ} {pr : α → Bool} {f : α → D} : ∀ (xs : List α) (acc : List D), (∀ x ∈ xs, ∃ e1 e2, g (enc x) E = .ok () e1 ∧ tt e1 = .ok (pr x) e2 ∧ (pr x = false → gForget vs e2 = E) ∧ (pr x = true → ∃ e3, toD me e2 = .ok (f x) e3 ∧ gForget vs e3 = E)) →
    acc.length + xs.length ≤ sizeLine → compL g tt me vs (xs.map enc) E acc = .ok (acc ++ (xs.filter pr).map f) E
  | [], acc, _, _ => by simp [compL]
  | x :: xs, acc, h, hz => by
    obtain ⟨e1, e2, h1, h2, h3, h4⟩ := h x List.mem_cons_self
    rw [List.length_cons] at hz
    rw [List.map_cons, compL_cons, h1]
    dsimp only
    rw [h2]
    dsimp only
    cases hp : pr x with
    | true =>
      obtain ⟨e3, h5, h6⟩ := h4 hp
      rw [if_pos rfl, h5]
      dsimp only
      rw [if_pos (by omega), h6, compL_ok xs (acc ++ [f x]) (fun y hy => h y (List.mem_cons_of_mem _ hy)) (by rw [List.length_append, List.length_singleton]; omega), List.filter_cons_of_pos hp, List.map_cons, List.append_assoc]
      rfl
    | false =>
      rw [if_neg Bool.false_ne_true, h3 hp, compL_ok xs acc (fun y hy => h y (List.mem_cons_of_mem _ hy)) (by omega), List.filter_cons_of_neg (by rw [hp]; exact Bool.false_ne_true)]
/-- without a test -/
theorem compL_all {E : Env ρ} {f : α → D} (xs : List α) (h : ∀ x ∈ xs, ∃ e1 e2, g (enc x) E = .ok () e1 ∧ toD me e1 = .ok (f x) e2 ∧ gForget vs e2 = E) (hz : xs.length ≤ sizeLine) : compL g mYes me vs (xs.map enc) E [] = .ok (xs.map f) E := by
  have q := compL_ok (ρ := ρ) (g := g) (tt := mYes) (me := me) (vs := vs) (enc := enc) (E := E) (pr := fun _ => true) (f := f) xs [] (fun x hx => ?_) (by simpa using hz)
  · rw [q, List.filter_eq_self.mpr fun _ _ => rfl]; rfl
  · obtain ⟨e1, e2, h1, h2, h3⟩ := h x hx
    exact ⟨e1, e1, h1, rfl, fun z => by simp at z, fun _ => ⟨e2, h2, h3⟩⟩
theorem mComp_ok {env env1 E2 : Env ρ} {xs acc : List D} (hs : src env = .ok xs env1) (hc : compL g tt me vs xs (gForget vs env1) [] = .ok acc E2) : mComp src g tt me vs env = .ok (.lst acc) (restore vs env1 E2) := by
  unfold mComp; rw [hs, Rs.bind_ok, hc]
/-! ### for -/
theorem forL_cons {x : D} {r : List D} {env : Env ρ} : forL g m (x :: r) env = (g x env).thenS fun _ env => match m env with
    | .nx env => forL g m r env
    | .ct env => forL g m r env
    | .bk env => .nx env
    | r => r := rfl
/-- a turn's outcome -/
def Turn (g : D → Env ρ → Rs ρ Unit) (m : MS ρ) (x : D) (env : Env ρ) (r : Sr ρ) : Prop := ∃ e1, g x env = .ok () e1 ∧ m e1 = r
theorem forL_opt {σ : Type} {R : σ → Env ρ → Prop} {stp : σ → α → Option σ} {out : SV ρ} : ∀ (xs : List α) (s : σ) (env : Env ρ), R s env →
    (∀ x ∈ xs, ∀ s env, R s env → match stp s x with
      | some s' => ∃ e2, (Turn g m (enc x) env (.nx e2) ∨ Turn g m (enc x) env (.ct e2)) ∧ R s' e2
      | none => ∃ e2, Turn g m (enc x) env (.rt out e2)) →
    match xs.foldlM stp s with
      | some s' => ∃ env', forL g m (xs.map enc) env = .nx env' ∧ R s' env'
      | none => ∃ env', forL g m (xs.map enc) env = .rt out env'
  | [], s, env, h0, _ => ⟨env, rfl, h0⟩
  | x :: xs, s, env, h0, h => by
    have q := h x List.mem_cons_self s env h0
    rw [List.foldlM_cons]
    cases hs : stp s x with
    | none =>
      rw [hs] at q
      obtain ⟨e2, e1, k1, k2⟩ := q
      refine ⟨e2, ?_⟩
      rw [List.map_cons, forL_cons, k1, Rs.thenS_ok, k2]
    | some s' =>
      rw [hs] at q
      obtain ⟨e2, ⟨e1, k1, k2⟩ | ⟨e1, k1, k2⟩, k3⟩ := q
      · have ih := forL_opt xs s' e2 k3 fun y hy => h y (List.mem_cons_of_mem _ hy)
        have e : forL g m ((x :: xs).map enc) env = forL g m (xs.map enc) e2 := by rw [List.map_cons, forL_cons, k1, Rs.thenS_ok, k2]
        rw [e]
        exact ih
      · have ih := forL_opt xs s' e2 k3 fun y hy => h y (List.mem_cons_of_mem _ hy)
        have e : forL g m ((x :: xs).map enc) env = forL g m (xs.map enc) e2 := by rw [List.map_cons, forL_cons, k1, Rs.thenS_ok, k2]
        rw [e]
        exact ih
/-- no way out -/
theorem forL_fold {σ : Type} {R : σ → Env ρ → Prop} {stp : σ → α → σ} (xs : List α) (s : σ) (env : Env ρ) (h0 : R s env)
    (h : ∀ x ∈ xs, ∀ s env, R s env → ∃ e2, Turn g m (enc x) env (.nx e2) ∧ R (stp s x) e2) : ∃ env', forL g m (xs.map enc) env = .nx env' ∧ R (xs.foldl stp s) env' := by
  have q := forL_opt (ρ := ρ) (g := g) (m := m) (enc := enc) (R := R) (stp := fun s x => some (stp s x)) (out := .no) xs s env h0 fun x hx s env hr => by
    obtain ⟨e2, k1, k2⟩ := h x hx s env hr
    exact ⟨e2, .inl k1, k2⟩
  have e : xs.foldlM (fun s x => some (stp s x)) s = some (xs.foldl stp s) := by
    clear q h h0
    induction xs generalizing s with
    | nil => rfl
    | cons x xs ih => rw [List.foldlM_cons, List.foldl_cons]; exact ih _
  rw [e] at q
  exact q
/-! ### while -/
theorem whileN_succ {t : MT ρ} {n : Nat} {env : Env ρ} : whileN t m (n + 1) env = (t env).thenS fun b env => if b = true then (match m env with
    | .nx env => whileN t m n env
    | .ct env => whileN t m n env
    | .bk env => .nx env
    | r => r) else .nx env := rfl
/-- by an invariant and a measure -/
theorem whileN_rule {σ : Type} {R : σ → Env ρ → Prop} {Post : Sr ρ → Prop} {t : MT ρ} (μ : σ → Nat) (h : ∀ s env, R s env → (∃ e1, t env = .ok false e1 ∧ Post (.nx e1)) ∨ (∃ e1, t env = .ok true e1 ∧ ((∃ s' e2, m e1 = .nx e2 ∧ R s' e2 ∧ μ s' < μ s) ∨ ∃ v e2, m e1 = .rt v e2 ∧ Post (.rt v e2)))) :
    ∀ (n : Nat) (s : σ) (env : Env ρ), R s env → μ s < n → Post (whileN t m n env)
  | 0, _, _, _, hn => absurd hn (Nat.not_lt_zero _)
  | n + 1, s, env, hr, hn => by
    rw [whileN_succ]
    rcases h s env hr with ⟨e1, h1, h2⟩ | ⟨e1, h1, ⟨s', e2, h2, h3, h4⟩ | ⟨v, e2, h2, h3⟩⟩
    · rw [h1, Rs.thenS_ok, if_neg Bool.false_ne_true]; exact h2
    · rw [h1, Rs.thenS_ok, if_pos rfl, h2]
      exact whileN_rule μ h n s' e2 h3 (by omega)
    · rw [h1, Rs.thenS_ok, if_pos rfl, h2]; exact h3
/-- for, by an invariant over places -/
theorem forL_rule {R : Nat → Env ρ → Prop} {Post : Sr ρ → Prop} (xs : List D) (env : Env ρ) (h0 : R 0 env) (hn : ∀ env, R xs.length env → Post (.nx env))
    (h : ∀ i x env, xs[i]? = some x → R i env → ∃ e1, g x env = .ok () e1 ∧ ((∃ e2, m e1 = .nx e2 ∧ R (i + 1) e2) ∨ ∃ v e2, m e1 = .rt v e2 ∧ Post (.rt v e2))) : Post (forL g m xs env) := by
  have key : ∀ (k i : Nat) (env : Env ρ), xs.length - i = k → i ≤ xs.length → R i env → Post (forL g m (xs.drop i) env) := by
    intro k
    induction k with
    | zero =>
      intro i env hk hi hr
      have e : i = xs.length := by omega
      subst e
      rw [List.drop_length]
      exact hn env hr
    | succ k ih =>
      intro i env hk hi hr
      have hlt : i < xs.length := by omega
      obtain ⟨e1, k1, q⟩ := h i xs[i] env (List.getElem?_eq_getElem hlt) hr
      rw [List.drop_eq_getElem_cons hlt, forL_cons, k1, Rs.thenS_ok]
      rcases q with ⟨e2, k2, k3⟩ | ⟨v, e2, k2, k3⟩
      · rw [k2]; exact ih (i + 1) e2 (by omega) hlt k3
      · rw [k2]; exact k3
  exact key _ 0 env rfl (Nat.zero_le _) h0
/-! ### items -/
theorem atI_at {β : Type} {xs : List β} {k : Nat} {x : β} (h : xs[k]? = some x) : atI xs (k : Int) = some x := by
  have hk : k < xs.length := (List.getElem?_eq_some_iff.mp h).1
  unfold atI ixN
  rw [if_pos (by omega), if_pos (by omega)]
  simpa using h
@[simp] theorem atI_zero {β : Type} (x : β) (xs : List β) : atI (x :: xs) 0 = some x := atI_at (k := 0) rfl
@[simp] theorem atI_one {β : Type} (x y : β) (xs : List β) : atI (x :: y :: xs) 1 = some y := atI_at (k := 1) rfl
@[simp] theorem atI_two {β : Type} (x y z : β) (xs : List β) : atI (x :: y :: z :: xs) 2 = some z := atI_at (k := 2) rfl
@[simp] theorem atI_three {β : Type} (x y z u : β) (xs : List β) : atI (x :: y :: z :: u :: xs) 3 = some u := atI_at (k := 3) rfl
@[simp] theorem atI_four {β : Type} (x y z u v : β) (xs : List β) : atI (x :: y :: z :: u :: v :: xs) 4 = some v := atI_at (k := 4) rfl
@[simp] theorem atI_five {β : Type} (x y z u v w : β) (xs : List β) : atI (x :: y :: z :: u :: v :: w :: xs) 5 = some w := atI_at (k := 5) rfl
theorem ixN_nat {n k : Nat} (h : k < n) : ixN n (k : Int) = some k := by unfold ixN; rw [if_pos (by omega), if_pos (by omega)]; simp
/-! ### kinds -/
def tyIs (T : String) (d : D) : Bool := match dTy d with
  | some n => (kitB n T).getD false
  | none => false
theorem kit_int : kitB "int" "int" = some true ∧ kitB "bool" "int" = some true ∧ kitB "tuple" "int" = some false ∧ kitB "list" "int" = some false ∧ kitB "str" "int" = some false ∧ kitB "NoneType" "int" = some false ∧ kitB "dict" "int" = some false := by decide +kernel
theorem kit_bool : kitB "int" "bool" = some false ∧ kitB "bool" "bool" = some true ∧ kitB "tuple" "bool" = some false ∧ kitB "list" "bool" = some false ∧ kitB "str" "bool" = some false ∧ kitB "NoneType" "bool" = some false ∧ kitB "dict" "bool" = some false := by decide +kernel
theorem kit_tuple : kitB "int" "tuple" = some false ∧ kitB "bool" "tuple" = some false ∧ kitB "tuple" "tuple" = some true ∧ kitB "list" "tuple" = some false ∧ kitB "str" "tuple" = some false ∧ kitB "NoneType" "tuple" = some false ∧ kitB "dict" "tuple" = some false := by decide +kernel
@[simp] theorem isi_int_int (i : Int) : dIsi (ρ := ρ) "int" (.int i) = some (.dat (.bl true)) := by unfold dIsi dTy; rw [Option.bind_some, kit_int.1]; rfl
@[simp] theorem isi_int_bl (i : Bool) : dIsi (ρ := ρ) "int" (.bl i) = some (.dat (.bl true)) := by unfold dIsi dTy; rw [Option.bind_some, kit_int.2.1]; rfl
@[simp] theorem isi_int_tup (i : List D) : dIsi (ρ := ρ) "int" (.tup i) = some (.dat (.bl false)) := by unfold dIsi dTy; rw [Option.bind_some, kit_int.2.2.1]; rfl
@[simp] theorem isi_int_lst (i : List D) : dIsi (ρ := ρ) "int" (.lst i) = some (.dat (.bl false)) := by unfold dIsi dTy; rw [Option.bind_some, kit_int.2.2.2.1]; rfl
@[simp] theorem isi_int_str (i : Str) : dIsi (ρ := ρ) "int" (.str i) = some (.dat (.bl false)) := by unfold dIsi dTy; rw [Option.bind_some, kit_int.2.2.2.2.1]; rfl
@[simp] theorem isi_int_non : dIsi (ρ := ρ) "int" .non = some (.dat (.bl false)) := by unfold dIsi dTy; rw [Option.bind_some, kit_int.2.2.2.2.2.1]; rfl
@[simp] theorem isi_int_dct (i : List (D × D)) : dIsi (ρ := ρ) "int" (.dct i) = some (.dat (.bl false)) := by unfold dIsi dTy; rw [Option.bind_some, kit_int.2.2.2.2.2.2]; rfl
@[simp] theorem isi_bool_int (i : Int) : dIsi (ρ := ρ) "bool" (.int i) = some (.dat (.bl false)) := by unfold dIsi dTy; rw [Option.bind_some, kit_bool.1]; rfl
@[simp] theorem isi_bool_bl (i : Bool) : dIsi (ρ := ρ) "bool" (.bl i) = some (.dat (.bl true)) := by unfold dIsi dTy; rw [Option.bind_some, kit_bool.2.1]; rfl
@[simp] theorem isi_bool_tup (i : List D) : dIsi (ρ := ρ) "bool" (.tup i) = some (.dat (.bl false)) := by unfold dIsi dTy; rw [Option.bind_some, kit_bool.2.2.1]; rfl
@[simp] theorem isi_bool_lst (i : List D) : dIsi (ρ := ρ) "bool" (.lst i) = some (.dat (.bl false)) := by unfold dIsi dTy; rw [Option.bind_some, kit_bool.2.2.2.1]; rfl
@[simp] theorem isi_bool_str (i : Str) : dIsi (ρ := ρ) "bool" (.str i) = some (.dat (.bl false)) := by unfold dIsi dTy; rw [Option.bind_some, kit_bool.2.2.2.2.1]; rfl
@[simp] theorem isi_bool_non : dIsi (ρ := ρ) "bool" .non = some (.dat (.bl false)) := by unfold dIsi dTy; rw [Option.bind_some, kit_bool.2.2.2.2.2.1]; rfl
@[simp] theorem isi_bool_dct (i : List (D × D)) : dIsi (ρ := ρ) "bool" (.dct i) = some (.dat (.bl false)) := by unfold dIsi dTy; rw [Option.bind_some, kit_bool.2.2.2.2.2.2]; rfl
@[simp] theorem isi_tuple_int (i : Int) : dIsi (ρ := ρ) "tuple" (.int i) = some (.dat (.bl false)) := by unfold dIsi dTy; rw [Option.bind_some, kit_tuple.1]; rfl
@[simp] theorem isi_tuple_bl (i : Bool) : dIsi (ρ := ρ) "tuple" (.bl i) = some (.dat (.bl false)) := by unfold dIsi dTy; rw [Option.bind_some, kit_tuple.2.1]; rfl
@[simp] theorem isi_tuple_tup (i : List D) : dIsi (ρ := ρ) "tuple" (.tup i) = some (.dat (.bl true)) := by unfold dIsi dTy; rw [Option.bind_some, kit_tuple.2.2.1]; rfl
@[simp] theorem isi_tuple_lst (i : List D) : dIsi (ρ := ρ) "tuple" (.lst i) = some (.dat (.bl false)) := by unfold dIsi dTy; rw [Option.bind_some, kit_tuple.2.2.2.1]; rfl
@[simp] theorem isi_tuple_str (i : Str) : dIsi (ρ := ρ) "tuple" (.str i) = some (.dat (.bl false)) := by unfold dIsi dTy; rw [Option.bind_some, kit_tuple.2.2.2.2.1]; rfl
@[simp] theorem isi_tuple_non : dIsi (ρ := ρ) "tuple" .non = some (.dat (.bl false)) := by unfold dIsi dTy; rw [Option.bind_some, kit_tuple.2.2.2.2.2.1]; rfl
@[simp] theorem isi_tuple_dct (i : List (D × D)) : dIsi (ρ := ρ) "tuple" (.dct i) = some (.dat (.bl false)) := by unfold dIsi dTy; rw [Option.bind_some, kit_tuple.2.2.2.2.2.2]; rfl
/-- [f(x) for x in xs], nothing else changed -/
theorem comp_all {f : α → D} {env env1 : Env ρ} (xs : List α) (hs : src env = .ok (xs.map enc) env1) (hz : xs.length ≤ sizeLine) (h : ∀ x ∈ xs, ∃ e1, g (enc x) (gForget vs env1) = .ok () e1 ∧ gForget vs e1 = gForget vs env1 ∧ toD me e1 = .ok (f x) e1) :
    mComp src g mYes me vs env = .ok (.lst (xs.map f)) (restore vs env1 (gForget vs env1)) :=
  mComp_ok hs (compL_all xs (fun x hx => let ⟨e1, h1, h2, h3⟩ := h x hx; ⟨e1, e1, h1, h3, h2⟩) hz)
/-- [f(x) for x in xs if p(x)], nothing else changed -/
theorem comp_some {f : α → D} {pr : α → Bool} {env env1 : Env ρ} (xs : List α) (hs : src env = .ok (xs.map enc) env1) (hz : xs.length ≤ sizeLine) (h : ∀ x ∈ xs, ∃ e1, g (enc x) (gForget vs env1) = .ok () e1 ∧ gForget vs e1 = gForget vs env1 ∧ tt e1 = .ok (pr x) e1 ∧ (pr x = true → toD me e1 = .ok (f x) e1)) :
    mComp src g tt me vs env = .ok (.lst ((xs.filter pr).map f)) (restore vs env1 (gForget vs env1)) := by
  rw [mComp_ok hs (compL_ok (f := f) (pr := pr) xs [] (fun x hx => let ⟨e1, h1, h2, h3, h4⟩ := h x hx; ⟨e1, e1, h1, h3, fun _ => h2, fun z => ⟨e1, h4 z, h2⟩⟩) (by simpa using hz)), List.nil_append]
/-- a for's outcome, whatever is wanted of it -/
theorem forL_out {σ : Type} {R : σ → Env ρ → Prop} {stp : σ → α → Option σ} {out : SV ρ} (Post : Sr ρ → Prop) (xs : List α) (s : σ) (env : Env ρ) (h0 : R s env)
    (h : ∀ x ∈ xs, ∀ s env, R s env → (∀ s', stp s x = some s' → ∃ e2, (Turn g m (enc x) env (.nx e2) ∨ Turn g m (enc x) env (.ct e2)) ∧ R s' e2) ∧ (stp s x = none → ∃ e2, Turn g m (enc x) env (.rt out e2)))
    (hn : ∀ s' env', xs.foldlM stp s = some s' → R s' env' → Post (.nx env')) (ho : ∀ env', xs.foldlM stp s = none → Post (.rt out env')) : Post (forL g m (xs.map enc) env) := by
  have q := forL_opt (ρ := ρ) (g := g) (m := m) (enc := enc) (R := R) (stp := stp) (out := out) xs s env h0 fun x hx s env hr => by
    obtain ⟨k1, k2⟩ := h x hx s env hr
    split
    · rename_i s' e; exact k1 s' e
    · rename_i e; exact k2 e
  split at q
  · rename_i s' e
    obtain ⟨env', h1, h2⟩ := q
    rw [h1]; exact hn s' env' e h2
  · rename_i e
    obtain ⟨env', h1⟩ := q
    rw [h1]; exact ho env' e
theorem rangeD0 (n : Nat) : rangeD 0 n = (List.range n).map nD := by
  unfold rangeD nD
  exact List.map_congr_left fun i _ => by rw [Int.zero_add]
theorem small_of {i : Int} (h : i.natAbs ≤ 1000000000) : small62 i = true := small62_of (Nat.lt_of_le_of_lt h (by decide))
theorem ite_yes {β : Type} {b : Bool} {x y : β} (h : b = true) : (if b = true then x else y) = x := if_pos h
theorem rng1_ev {a : ME ρ} {env env' : Env ρ} {n : Nat} (h : toD a env = .ok (.int (n : Int)) env') (hn : n ≤ 1000000) : srcRng1 a env = .ok ((List.range n).map nD) env' := by
  have hs : small62 (n : Int) = true := small_of (by rw [Int.natAbs_natCast]; exact Nat.le_trans hn (by decide))
  have e : (Int.toNat (n : Int)) = n := Int.toNat_natCast n
  unfold srcRng1
  rw [h]
  simp only [Rs.bind_ok]
  generalize small62 (n : Int) = b at hs ⊢
  subst hs
  simp only [if_true, e, rangeD0]
/-- .. with no way out -/
theorem forL_all {σ : Type} {R : σ → Env ρ → Prop} {f : σ → α → σ} (Post : Sr ρ → Prop) (xs : List α) (s : σ) (env : Env ρ) (h0 : R s env)
    (h : ∀ x ∈ xs, ∀ s env, R s env → ∃ e2, Turn g m (enc x) env (.nx e2) ∧ R (f s x) e2) (hn : ∀ env', R (xs.foldl f s) env' → Post (.nx env')) : Post (forL g m (xs.map enc) env) := by
  obtain ⟨env', h1, h2⟩ := forL_fold (ρ := ρ) (g := g) (m := m) (enc := enc) (R := R) (stp := f) xs s env h0 h
  rw [h1]; exact hn env' h2
end Mir
set_option Elab.async false
set_option linter.all false
set_option maxRecDepth 100000
set_option maxHeartbeats 4000000
namespace K74
open PySem PySem.Spec L2 Mir
section
variable {ρ : Type} [Rsc ρ] [HasD ρ]
def k_MOST_BOXES : D := (.int 16)
def k_HANDS : D := (.int 16)
def k_MOST_CALLS : D := (.int 40)
def k_MOST_AT_A_BOX : D := (.int 8)
def k_CALL_PARTS : D := (.int 6)
/-- is_whole(thing); slots thing -/
def m_is_whole : MF ρ := mFn [] 1 1 ((sRet (mAndV (mUn (dIsi "int") (mVar 0)) (mNotV (mUn (dIsi "bool") (mVar 0))))))
/-- is_row_of(thing, many); slots thing, many -/
def m_is_row_of : MF ρ := mFn [] 2 2 ((sRet (mAndV (mUn (dIsi "tuple") (mVar 0)) (mOp dEq (mBlt dLen (mArgs [(mVar 0)])) (mVar 1)))))
/-- is_end(thing); slots thing -/
def m_is_end : MF ρ := mFn [] 1 1 ((sRet (mOrV (mOp dIs (mVar 0) (mC .non)) (mCall m_is_whole [.e (mVar 0)]))))
/-- is_deed(thing); slots thing, add, low, high -/
def m_is_deed : MF ρ := mFn [] 1 4 ((sSeq (sIf (mOr (mNot (mTest (mCall m_is_row_of [.e (mVar 0), .e (mC (.int 3))]))) (mOr (mNot (mTest (mCall m_is_whole [.e (mOp dIx (mVar 0) (mC (.int 0)))]))) (mOr (mNot (mTest (mCall m_is_end [.e (mOp dIx (mVar 0) (mC (.int 1)))]))) (mNot (mTest (mCall m_is_end [.e (mOp dIx (mVar 0) (mC (.int 2)))])))))) (sRet (mC (.bl false))) sNext) (sSeq (sAsgG (tgT 3 (tgCons (tgN 1) (tgCons (tgN 2) (tgCons (tgN 3) tgNil)))) (mVar 0)) (sSeq (sIf (mOr (mTest (mOp dIs (mVar 2) (mC .non))) (mTest (mOp dIs (mVar 3) (mC .non)))) (sRet (mC (.bl true))) sNext) (sRet (mOrV (mOp dLt (mVar 2) (mVar 3)) (mAndV (mOp dEq (mVar 2) (mVar 3)) (mOp dEq (mVar 1) (mC (.int 0))))))))))
/-- put_through(deed, value); slots deed, value, add, low, high, found -/
def m_put_through : MF ρ := mFn [] 2 6 ((sSeq (sAsgG (tgT 3 (tgCons (tgN 2) (tgCons (tgN 3) (tgCons (tgN 4) tgNil)))) (mVar 0)) (sSeq (sAsg 5 (mFrz (mOp dAdd (mVar 1) (mVar 2)))) (sSeq (sIf (mTest (mOp dIsNot (mVar 3) (mC .non))) (sAsg 5 (mFrz (mBlt dMax2 (mArgs [(mVar 3), (mVar 5)])))) sNext) (sRet (mIf (mTest (mOp dIs (mVar 4) (mC .non))) (mVar 5) (mBlt dMin2 (mArgs [(mVar 4), (mVar 5)]))))))))
/-- is_board(thing); slots thing, value -/
def m_is_board : MF ρ := mFn [] 1 2 ((sRet (mAndV (mUn (dIsi "tuple") (mVar 0)) (mAndV (mChain iLe iLe (mC (.int 1)) (mBlt dLen (mArgs [(mVar 0)])) (mC k_MOST_BOXES)) (mBlt dAll (mArgs [(mComp (srcSeq (mVar 0)) (tgN 1) mYes (mCall m_is_whole [.e (mVar 1)]) [1])]))))))
/-- want_board(board); slots board -/
def m_want_board : MF ρ := mFn [] 1 1 ((sIf (mNot (mTest (mCall m_is_board [.e (mVar 0)]))) (sRaise "NoBoard") sNext))
/-- is_ask(board, thing); slots board, thing -/
def m_is_ask : MF ρ := mFn [] 2 2 ((sSeq (sIf (mOr (mNot (mTest (mUn (dIsi "tuple") (mVar 1)))) (mOr (mTest (mOp dNe (mBlt dLen (mArgs [(mVar 1)])) (mC (.int 3)))) (mOr (mNot (mTest (mCall m_is_whole [.e (mOp dIx (mVar 1) (mC (.int 0)))]))) (mNot (mTest (mCall m_is_whole [.e (mOp dIx (mVar 1) (mC (.int 1)))])))))) (sRet (mC (.bl false))) sNext) (sRet (mAndV (mChain iLe iLt (mC (.int 0)) (mOp dIx (mVar 1) (mC (.int 0))) (mC k_HANDS)) (mAndV (mChain iLe iLt (mC (.int 0)) (mOp dIx (mVar 1) (mC (.int 1))) (mBlt dLen (mArgs [(mVar 0)]))) (mCall m_is_deed [.e (mOp dIx (mVar 1) (mC (.int 2)))]))))))
/-- are_times(begun, ended); slots begun, ended -/
def m_are_times : MF ρ := mFn [] 2 2 ((sRet (mAndV (mCall m_is_whole [.e (mVar 0)]) (mAndV (mCall m_is_whole [.e (mVar 1)]) (mChain iLe iLe (mC (.int 0)) (mVar 0) (mVar 1))))))
/-- is_call(board, thing); slots board, thing -/
def m_is_call : MF ρ := mFn [] 2 2 ((sSeq (sIf (mOr (mNot (mTest (mUn (dIsi "tuple") (mVar 1)))) (mTest (mOp dNe (mBlt dLen (mArgs [(mVar 1)])) (mC k_CALL_PARTS)))) (sRet (mC (.bl false))) sNext) (sRet (mAndV (mCall m_is_ask [.e (mVar 0), .e (mSl (mVar 1) mNoPart (mPart (mC (.int 3))))]) (mAndV (mCall m_are_times [.e (mOp dIx (mVar 1) (mC (.int 3))), .e (mOp dIx (mVar 1) (mC (.int 4)))]) (mCall m_is_whole [.e (mOp dIx (mVar 1) (mC (.int 5)))]))))))
/-- numbers_at(calls, box); slots calls, box, k, call -/
def m_numbers_at : MF ρ := mFn [] 2 4 ((sRet (mComp (srcEnum (mVar 0)) (tgT 2 (tgCons (tgN 2) (tgCons (tgN 3) tgNil))) (mTest (mOp dEq (mOp dIx (mVar 3) (mC (.int 1))) (mVar 1))) (mVar 2) [2, 3])))
/-- are_calls(board, thing); slots board, thing, box, one -/
def m_are_calls : MF ρ := mFn [] 2 4 ((sSeq (sExpr (mCall m_want_board [.e (mVar 0)])) (sSeq (sIf (mOr (mNot (mTest (mUn (dIsi "tuple") (mVar 1)))) (mTest (mOp dGt (mBlt dLen (mArgs [(mVar 1)])) (mC k_MOST_CALLS)))) (sRet (mC (.bl false))) sNext) (sSeq (sIf (mNot (mTest (mBlt dAll (mArgs [(mComp (srcSeq (mVar 1)) (tgN 3) mYes (mCall m_is_call [.e (mVar 0), .e (mVar 3)]) [3])])))) (sRet (mC (.bl false))) sNext) (sRet (mBlt dAll (mArgs [(mComp (srcRng1 (mBlt dLen (mArgs [(mVar 0)]))) (tgN 2) mYes (mOp dLe (mBlt dLen (mArgs [(mCall m_numbers_at [.e (mVar 1), .e (mVar 2)])])) (mC k_MOST_AT_A_BOX)) [2])])))))))
/-- want_calls(board, calls); slots board, calls -/
def m_want_calls : MF ρ := mFn [] 2 2 ((sIf (mNot (mTest (mCall m_are_calls [.e (mVar 0), .e (mVar 1)]))) (sRaise "NoCalls") sNext))
/-- are_numbers_of(thing, numbers); slots thing, numbers, one -/
def m_are_numbers_of : MF ρ := mFn [] 2 3 ((sSeq (sIf (mOr (mNot (mTest (mUn (dIsi "tuple") (mVar 0)))) (mNot (mTest (mBlt dAll (mArgs [(mComp (srcSeq (mVar 0)) (tgN 2) mYes (mCall m_is_whole [.e (mVar 2)]) [2])]))))) (sRet (mC (.bl false))) sNext) (sRet (mOp dEq (mBlt dSorted (mArgs [(mVar 0)])) (mVar 1)))))
/-- is_ahead(calls, k, j); slots calls, k, j -/
def m_is_ahead : MF ρ := mFn [] 3 3 ((sRet (mOp dLt (mOp dIx (mOp dIx (mVar 0) (mVar 1)) (mC (.int 4))) (mOp dIx (mOp dIx (mVar 0) (mVar 2)) (mC (.int 3))))))
/-- keeps_ahead(calls, row); slots calls, row, latest, k -/
def m_keeps_ahead : MF ρ := mFn [] 2 4 ((sSeq (sAsg 2 (mFrz (mC (.int 0)))) (sSeq (sFor (srcSeq (mVar 1)) (tgN 3) (sSeq (sIf (mTest (mOp dLt (mOp dIx (mOp dIx (mVar 0) (mVar 3)) (mC (.int 4))) (mVar 2))) (sRet (mC (.bl false))) sNext) (sAsg 2 (mFrz (mBlt dMax2 (mArgs [(mVar 2), (mOp dIx (mOp dIx (mVar 0) (mVar 3)) (mC (.int 3)))])))))) (sRet (mC (.bl true))))))
/-- answers_so(board, calls, row); slots board, calls, row, values, k, hand, box, deed, begun, ended, answer -/
def m_answers_so : MF ρ := mFn [] 3 11 ((sSeq (sAsg 3 (mBlt dListOf (mArgs [(mVar 0)]))) (sSeq (sFor (srcSeq (mVar 2)) (tgN 4) (sSeq (sAsgG (tgT 6 (tgCons (tgN 5) (tgCons (tgN 6) (tgCons (tgN 7) (tgCons (tgN 8) (tgCons (tgN 9) (tgCons (tgN 10) tgNil))))))) (mOp dIx (mVar 1) (mVar 4))) (sSeq (sIf (mTest (mOp dNe (mIxOwn 3 (mVar 6)) (mVar 10))) (sRet (mC (.bl false))) sNext) (sAsgG (tgIx 3 (mVar 6)) (mCall m_put_through [.e (mVar 7), .e (mVar 10)]))))) (sRet (mC (.bl true))))))
/-- fits(board, calls, order); slots board, calls, order -/
def m_fits : MF ρ := mFn [] 3 3 ((sSeq (sExpr (mCall m_want_calls [.e (mVar 0), .e (mVar 1)])) (sSeq (sIf (mNot (mTest (mCall m_are_numbers_of [.e (mVar 2), .e (mRangeList (mBlt dLen (mArgs [(mVar 1)])))]))) (sRet (mC (.bl false))) sNext) (sRet (mAndV (mCall m_keeps_ahead [.e (mVar 1), .e (mVar 2)]) (mCall m_answers_so [.e (mVar 0), .e (mVar 1), .e (mVar 2)]))))))
/-- may_be_next(calls, left, k, value); slots calls, left, k, value, j -/
def m_may_be_next : MF ρ := mFn [] 4 5 ((sRet (mAndV (mOp dEq (mOp dIx (mOp dIx (mVar 0) (mVar 2)) (mC (.int 5))) (mVar 3)) (mNotV (mBlt dAny (mArgs [(mComp (srcSeq (mVar 1)) (tgN 4) mYes (mCall m_is_ahead [.e (mVar 0), .e (mVar 4), .e (mVar 2)]) [4])]))))))
/-- next_states(calls, state); slots calls, state, left, value, found, k, rest, j -/
def m_next_states : MF ρ := mFn [] 2 8 ((sSeq (sAsgG (tgT 2 (tgCons (tgN 2) (tgCons (tgN 3) tgNil))) (mVar 1)) (sSeq (sAsg 4 (mLst (mArgs []))) (sSeq (sFor (srcSeq (mVar 2)) (tgN 5) (sIf (mTest (mCall m_may_be_next [.e (mVar 0), .e (mVar 2), .e (mVar 5), .e (mVar 3)])) (sSeq (sAsg 6 (mFrz (mBlt dTupOf (mArgs [(mComp (srcSeq (mVar 2)) (tgN 7) (mTest (mOp dNe (mVar 7) (mVar 5))) (mVar 7) [7])])))) (sExpr (mOwn 4 fAppend (mArgs [(mTup (mArgs [(mTup (mArgs [(mVar 6), (mCall m_put_through [.e (mOp dIx (mOp dIx (mVar 0) (mVar 5)) (mC (.int 2))), .e (mVar 3)])])), (mVar 5)]))])))) sNext)) (sRet (mMove 4))))))
/-- row_to(reached, state); slots reached, state, found, k -/
def m_row_to : MF ρ := mFn [0] 2 4 ((sSeq (sAsg 2 (mLst (mArgs []))) (sSeq (whileN (mTest (mOp dIsNot (mTkIx 0 (mVar 1)) (mC .non))) (sSeq (sAsgG (tgT 2 (tgCons (tgN 1) (tgCons (tgN 3) tgNil))) (mTkIx 0 (mVar 1))) (sExpr (mOwn 2 fAppend (mArgs [(mVar 3)])))) 100000) (sSeq (sExpr (mOwn 2 fReverse (mArgs []))) (sRet (mTupOwn 2))))))
/-- order_at(calls, numbers, value); slots calls, numbers, value, reached, waiting, at, state, onward, k -/
def m_order_at : MF ρ := mFn [] 3 9 ((sSeq (sAsg 3 (mTkDisp (mTup (mArgs [(mBlt dTupOf (mArgs [(mVar 1)])), (mVar 2)])) (mC .non))) (sSeq (sAsg 4 (mTkList 3)) (sSeq (sAsg 5 (mFrz (mC (.int 0)))) (sSeq (whileN (mTest (mOp dLt (mVar 5) (mPeek 4 (mBlt dLen (mArgs [(mVar 4)]))))) (sSeq (sAsg 6 (mFrz (mIxOwn 4 (mVar 5)))) (sSeq (sIf (mTest (mOp dEq (mOp dIx (mVar 6) (mC (.int 0))) (mTup (mArgs [])))) (sRet (mCall m_row_to [.io 3, .e (mVar 6)])) sNext) (sSeq (sFor (srcSeq (mCall m_next_states [.e (mVar 0), .e (mVar 6)])) (tgT 2 (tgCons (tgN 7) (tgCons (tgN 8) tgNil))) (sIf (mTest (mTkNotIn 3 (mVar 7))) (sSeq (sAsgG (tgTk 3 (mVar 7)) (mTup (mArgs [(mVar 6), (mVar 8)]))) (sExpr (mOwn 4 fAppend (mArgs [(mVar 7)])))) sNext)) (sAsg 5 (mFrz (mOp dAdd (mVar 5) (mC (.int 1)))))))) 100000) (sRet (mC .non)))))))
/-- box_orders(board, calls); slots board, calls, box, value -/
def m_box_orders : MF ρ := mFn [] 2 4 ((sRet (mComp (srcEnum (mVar 0)) (tgT 2 (tgCons (tgN 2) (tgCons (tgN 3) tgNil))) mYes (mCall m_order_at [.e (mVar 1), .e (mCall m_numbers_at [.e (mVar 1), .e (mVar 2)]), .e (mVar 3)]) [2, 3])))
/-- laid_together(calls, rows); slots calls, rows, fronts, found, left, k, row, j -/
def m_laid_together : MF ρ := mFn [] 2 8 ((sSeq (sAsg 2 (mFrz (mComp (srcSeq (mVar 1)) (tgN 6) (mTest (mOp dNe (mVar 6) (mTup (mArgs [])))) (mBlt dListOf (mArgs [(mVar 6)])) [6]))) (sSeq (sAsg 3 (mLst (mArgs []))) (sSeq (whileN (mTest (mOp dNe (mVar 2) (mLst (mArgs [])))) (sSeq (sAsg 4 (mFrz (mBlt dSum2 (mArgs [(mVar 2), (mLst (mArgs []))])))) (sSeq (sAsg 5 (mFrz (mOp dIx (mComp (srcSeq (mVar 2)) (tgN 6) (mNot (mTest (mBlt dAny (mArgs [(mComp (srcSeq (mVar 4)) (tgN 7) mYes (mCall m_is_ahead [.e (mVar 0), .e (mVar 7), .e (mOp dIx (mVar 6) (mC (.int 0)))]) [7])])))) (mOp dIx (mVar 6) (mC (.int 0))) [6]) (mC (.int 0))))) (sSeq (sExpr (mOwn 3 fAppend (mArgs [(mVar 5)]))) (sSeq (sAsg 2 (mFrz (mComp (srcSeq (mVar 2)) (tgN 6) mYes (mComp (srcSeq (mVar 6)) (tgN 7) (mTest (mOp dNe (mVar 7) (mVar 5))) (mVar 7) [7]) [6]))) (sAsg 2 (mFrz (mComp (srcSeq (mVar 2)) (tgN 6) (mTest (mOp dNe (mVar 6) (mLst (mArgs [])))) (mVar 6) [6]))))))) 100000) (sRet (mTupOwn 3))))))
/-- an_order(board, calls); slots board, calls, rows -/
def m_an_order : MF ρ := mFn [] 2 3 ((sSeq (sExpr (mCall m_want_calls [.e (mVar 0), .e (mVar 1)])) (sSeq (sAsg 2 (mFrz (mCall m_box_orders [.e (mVar 0), .e (mVar 1)]))) (sRet (mIf (mTest (mOp dIn (mC .non) (mVar 2))) (mC .non) (mCall m_laid_together [.e (mVar 1), .e (mVar 2)]))))))
/-- _law_at(_law_script, _law_k); slots _law_script, _law_k -/
def m__law_at : MF ρ := mFn [] 2 2 ((sSeq (sIf (mTest (mOp dLt (mVar 1) (mBlt dLen (mArgs [(mVar 0)])))) (sRet (mOp dIx (mVar 0) (mVar 1))) sNext) (sRet (mC (.int 0)))))
/-- _law_pot(_law_script, _law_k); slots _law_script, _law_k, _law_cell, _law_seed -/
def m__law_pot : MF ρ := mFn [] 2 4 ((sSeq (sAsg 2 (mFrz (mCall m__law_at [.e (mVar 0), .e (mVar 1)]))) (sSeq (sAsg 3 (mFrz (mOp dMod (mOp dPow (mOp dAdd (mOp dMul (mOp dAdd (mOp dMod (mVar 2) (mC (.int 2147483629))) (mC (.int 11))) (mOp dAdd (mOp dMul (mC (.int 977)) (mVar 1)) (mC (.int 131)))) (mC (.int 7))) (mC (.int 5))) (mC (.int 2147483647))))) (sRet (mLst (mArgs [(mBlt dMax2 (mArgs [(mC (.int 0)), (mOp dSub (mVar 2) (mOp dPow (mC (.int 10)) (mC (.int 18))))])), (mVar 3)]))))))
/-- _law_take(_law_pot_here, _law_many); slots _law_pot_here, _law_many, _law_digit -/
def m__law_take : MF ρ := mFn [0] 2 3 ((sSeq (sIf (mTest (mOp dGt (mIxOwn 0 (mC (.int 0))) (mC (.int 0)))) (sSeq (sAsg 2 (mFrz (mOp dMod (mIxOwn 0 (mC (.int 0))) (mVar 1)))) (sSeq (sAsgG (tgIx 0 (mC (.int 0))) (mOp dFdiv (mIxOwn 0 (mC (.int 0))) (mVar 1))) (sRet (mVar 2)))) sNext) (sSeq (sAsgG (tgIx 0 (mC (.int 1))) (mOp dMod (mOp dAdd (mOp dMul (mIxOwn 0 (mC (.int 1))) (mC (.int 48271))) (mC (.int 12345))) (mC (.int 2147483647)))) (sRet (mOp dMod (mOp dFdiv (mOp dMod (mOp dMul (mIxOwn 0 (mC (.int 1))) (mIxOwn 0 (mC (.int 1)))) (mC (.int 2147483629))) (mC (.int 11))) (mVar 1))))))
/-- _law_done(_law_deed, _law_value); slots _law_deed, _law_value -/
def m__law_done : MF ρ := mFn [] 2 2 ((sSeq (sAsg 1 (mFrz (mOp dAdd (mVar 1) (mOp dIx (mVar 0) (mC (.int 0)))))) (sSeq (sIf (mAnd (mTest (mOp dIsNot (mOp dIx (mVar 0) (mC (.int 1))) (mC .non))) (mTest (mOp dLt (mVar 1) (mOp dIx (mVar 0) (mC (.int 1)))))) (sAsg 1 (mFrz (mOp dIx (mVar 0) (mC (.int 1))))) sNext) (sSeq (sIf (mAnd (mTest (mOp dIsNot (mOp dIx (mVar 0) (mC (.int 2))) (mC .non))) (mTest (mOp dGt (mVar 1) (mOp dIx (mVar 0) (mC (.int 2)))))) (sAsg 1 (mFrz (mOp dIx (mVar 0) (mC (.int 2))))) sNext) (sRet (mVar 1))))))
/-- _law_is_order(_law_thing, _law_many); slots _law_thing, _law_many, _law_k -/
def m__law_is_order : MF ρ := mFn [] 2 3 ((sSeq (sIf (mOr (mNot (mTest (mUn (dIsi "tuple") (mVar 0)))) (mTest (mBlt dAny (mArgs [(mComp (srcSeq (mVar 0)) (tgN 2) mYes (mOrV (mNotV (mUn (dIsi "int") (mVar 2))) (mUn (dIsi "bool") (mVar 2))) [2])])))) (sRet (mC (.bl false))) sNext) (sRet (mOp dEq (mBlt dSorted (mArgs [(mVar 0)])) (mRangeList (mVar 1))))))
/-- _law_keeps(_law_calls, _law_row); slots _law_calls, _law_row, _law_at_here, _law_k, _law_j -/
def m__law_keeps : MF ρ := mFn [] 2 5 ((sSeq (sFor (srcEnum (mVar 1)) (tgT 2 (tgCons (tgN 2) (tgCons (tgN 3) tgNil))) (sIf (mTest (mBlt dAny (mArgs [(mComp (srcSeq (mSl (mVar 1) (mPart (mOp dAdd (mVar 2) (mC (.int 1)))) mNoPart)) (tgN 4) mYes (mOp dLt (mOp dIx (mOp dIx (mVar 0) (mVar 4)) (mC (.int 4))) (mOp dIx (mOp dIx (mVar 0) (mVar 3)) (mC (.int 3)))) [4])]))) (sRet (mC (.bl false))) sNext)) (sRet (mC (.bl true)))))
/-- _law_answers(_law_board, _law_calls, _law_row); slots _law_board, _law_calls, _law_row, _law_values, _law_k, _law_box -/
def m__law_answers : MF ρ := mFn [] 3 6 ((sSeq (sAsg 3 (mBlt dListOf (mArgs [(mVar 0)]))) (sSeq (sFor (srcSeq (mVar 2)) (tgN 4) (sSeq (sAsg 5 (mFrz (mOp dIx (mOp dIx (mVar 1) (mVar 4)) (mC (.int 1))))) (sSeq (sIf (mTest (mOp dNe (mIxOwn 3 (mVar 5)) (mOp dIx (mOp dIx (mVar 1) (mVar 4)) (mC (.int 5))))) (sRet (mC (.bl false))) sNext) (sAsgG (tgIx 3 (mVar 5)) (mCall m__law_done [.e (mOp dIx (mOp dIx (mVar 1) (mVar 4)) (mC (.int 2))), .e (mIxOwn 3 (mVar 5))]))))) (sRet (mC (.bl true))))))
/-- _law_fits(_law_board, _law_calls, _law_thing); slots _law_board, _law_calls, _law_thing -/
def m__law_fits : MF ρ := mFn [] 3 3 ((sSeq (sIf (mNot (mTest (mCall m__law_is_order [.e (mVar 2), .e (mBlt dLen (mArgs [(mVar 1)]))]))) (sRet (mC (.bl false))) sNext) (sRet (mAndV (mCall m__law_keeps [.e (mVar 1), .e (mVar 2)]) (mCall m__law_answers [.e (mVar 0), .e (mVar 1), .e (mVar 2)])))))
/-- _law_call(_law_pot_here, _law_boxes); slots _law_pot_here, _law_boxes, _law_deeds, _law_begun, _law_times, _law_ask -/
def m__law_call : MF ρ := mFn [0] 2 6 ((sSeq (sAsg 2 (mFrz (mLst (mArgs [(mTup (mArgs [(mC (.int 0)), (mC .non), (mC .non)])), (mTup (mArgs [(mC (.int 1)), (mC .non), (mC .non)])), (mTup (mArgs [(mC (.int 0)), (mC (.int 0)), (mC (.int 0))])), (mTup (mArgs [(mC (.int 0)), (mC (.int 1)), (mC (.int 1))]))])))) (sSeq (sAsg 2 (mFrz (mOp dAdd (mVar 2) (mLst (mArgs [(mTup (mArgs [(mC (.int 2)), (mC .non), (mC (.int 2))])), (mTup (mArgs [(mUn dNeg (mC (.int 1))), (mC (.int 0)), (mC .non)])), (mTup (mArgs [(mC (.int 1)), (mC (.int 0)), (mC (.int 2))])), (mTup (mArgs [(mC (.int 0)), (mC (.int 1)), (mC .non)]))]))))) (sSeq (sAsg 3 (mFrz (mCall m__law_take [.io 0, .e (mC (.int 5))]))) (sSeq (sAsg 4 (mFrz (mTup (mArgs [(mVar 3), (mOp dAdd (mVar 3) (mCall m__law_take [.io 0, .e (mC (.int 4))]))])))) (sSeq (sAsg 5 (mFrz (mTup (mArgs [(mCall m__law_take [.io 0, .e (mC (.int 16))]), (mCall m__law_take [.io 0, .e (mVar 1)]), (mOp dIx (mVar 2) (mCall m__law_take [.io 0, .e (mC (.int 8))]))])))) (sRet (mOp dAdd (mOp dAdd (mVar 5) (mVar 4)) (mTup (mArgs [(mCall m__law_take [.io 0, .e (mC (.int 3))])]))))))))))
/-- _law_all(_law_numbers); slots _law_numbers, _law_found, _law_turn, _law_longer, _law_row, _law_k -/
def m__law_all : MF ρ := mFn [] 1 6 ((sSeq (sAsg 1 (mFrz (mLst (mArgs [(mTup (mArgs []))])))) (sSeq (sFor (srcRng1 (mBlt dLen (mArgs [(mVar 0)]))) (tgN 2) (sSeq (sAsg 3 (mLst (mArgs []))) (sSeq (sFor (srcSeq (mVar 1)) (tgN 4) (sExpr (mOwn 3 fExtend (mArgs [(mComp (srcSeq (mVar 0)) (tgN 5) (mTest (mOp dNotIn (mVar 5) (mVar 4))) (mOp dAdd (mVar 4) (mTup (mArgs [(mVar 5)]))) [5])])))) (sGhost (gFreeze 3) (sAsg 1 (mFrz (mVar 3))))))) (sRet (mVar 1)))))
/-- _law_right(_law_board, _law_calls); slots _law_board, _law_calls, _law_some, _law_good, _law_row, _law_told, _law_found -/
def m__law_right : MF ρ := mFn [] 2 7 ((sSeq (sAsg 2 (mFrz (mCall m__law_all [.e (mRangeList (mBlt dLen (mArgs [(mVar 1)])))]))) (sSeq (sAsg 3 (mFrz (mComp (srcSeq (mVar 2)) (tgN 4) (mTest (mCall m__law_fits [.e (mVar 0), .e (mVar 1), .e (mVar 4)])) (mVar 4) [4]))) (sSeq (sFor (srcSeq (mOp dAdd (mSt (mVar 2) mNoPart mNoPart (mPart (mC (.int 7)))) (mSl (mVar 3) mNoPart (mPart (mC (.int 9)))))) (tgN 4) (sSeq (sAsg 5 (mFrz (mCall m_fits [.e (mVar 0), .e (mVar 1), .e (mVar 4)]))) (sIf (mOr (mNot (mTest (mUn (dIsi "bool") (mVar 5)))) (mTest (mOp dNe (mVar 5) (mOp dIn (mVar 4) (mVar 3))))) (sRet (mC (.bl false))) sNext))) (sSeq (sAsg 6 (mFrz (mCall m_an_order [.e (mVar 0), .e (mVar 1)]))) (sSeq (sIf (mTest (mOp dEq (mVar 3) (mLst (mArgs [])))) (sRet (mOp dIs (mVar 6) (mC .non))) sNext) (sRet (mAndV (mUn (dIsi "tuple") (mVar 6)) (mAndV (mOp dIn (mVar 6) (mVar 3)) (mCall m__law_fits [.e (mVar 0), .e (mVar 1), .e (mVar 6)]))))))))))
/-- law(_law_script); slots _law_script, _law_k, _law_pot_here, _law_board, _law_calls, _law_box, _law_turn -/
def m_law : MF ρ := mFn [] 1 7 ((sSeq (sFor (srcRng1 (mBlt dMax2 (mArgs [(mC (.int 2)), (mBlt dMin2 (mArgs [(mC (.int 8)), (mBlt dLen (mArgs [(mVar 0)]))]))]))) (tgN 1) (sSeq (sAsg 2 (mCall m__law_pot [.e (mVar 0), .e (mVar 1)])) (sSeq (sAsg 3 (mFrz (mBlt dTupOf (mArgs [(mComp (srcRng1 (mOp dAdd (mC (.int 1)) (mCall m__law_take [.io 2, .e (mC (.int 2))]))) (tgN 5) mYes (mCall m__law_take [.io 2, .e (mC (.int 3))]) [5])])))) (sSeq (sAsg 4 (mFrz (mBlt dTupOf (mArgs [(mComp (srcRng1 (mCall m__law_take [.io 2, .e (mC (.int 6))])) (tgN 6) mYes (mCall m__law_call [.io 2, .e (mBlt dLen (mArgs [(mVar 3)]))]) [6])])))) (sIf (mNot (mTest (mCall m__law_right [.e (mVar 3), .e (mVar 4)]))) (sRet (mC (.bl false))) sNext))))) (sRet (mC (.bl true)))))
end
end K74
set_option Elab.async false
set_option linter.all false
set_option maxRecDepth 100000
set_option maxHeartbeats 4000000
namespace K74
open PySem PySem.Spec L2 Mir
def topS (i : Nat) : Stmt := PySem.Challenge.pw_joinedasks_k74_whole_none_where_none_fit.main.body.getD i (.Pass ⟨0, 0, 0, 0⟩)
structure Txt (K : PySem.W.Frag) (mg : Str → Option Value) (ca : Str → Addr) : Prop where
  b_all : mg "all" = none
  b_any : mg "any" = none
  b_bool : mg "bool" = none
  b_enumerate : mg "enumerate" = none
  b_int : mg "int" = none
  b_isinstance : mg "isinstance" = none
  b_len : mg "len" = none
  b_list : mg "list" = none
  b_max : mg "max" = none
  b_min : mg "min" = none
  b_range : mg "range" = none
  b_sorted : mg "sorted" = none
  b_sum : mg "sum" = none
  b_tuple : mg "tuple" = none
  g_CALL_PARTS : ∃ (u : Value) (v : V), mg "CALL_PARTS" = some u ∧ RelV v u ∧ ∀ H, Rep K ca H v k_CALL_PARTS
  g_HANDS : ∃ (u : Value) (v : V), mg "HANDS" = some u ∧ RelV v u ∧ ∀ H, Rep K ca H v k_HANDS
  g_MOST_AT_A_BOX : ∃ (u : Value) (v : V), mg "MOST_AT_A_BOX" = some u ∧ RelV v u ∧ ∀ H, Rep K ca H v k_MOST_AT_A_BOX
  g_MOST_BOXES : ∃ (u : Value) (v : V), mg "MOST_BOXES" = some u ∧ RelV v u ∧ ∀ H, Rep K ca H v k_MOST_BOXES
  g_MOST_CALLS : ∃ (u : Value) (v : V), mg "MOST_CALLS" = some u ∧ RelV v u ∧ ∀ H, Rep K ca H v k_MOST_CALLS
  x_NoBoard : ExcOk K mg ca "NoBoard"
  x_NoCalls : ExcOk K mg ca "NoCalls"
section
variable {P : Program} {w : World} {K : PySem.W.Frag} {mg : Str → Option Value} {base : Heap} {ca : Str → Addr}
abbrev s_is_whole : Stmt := (topS 5)
theorem sc_is_whole : FnScope ["thing"] ["thing"] (defScope s_is_whole) := ⟨rfl, rfl, rfl, by decide +kernel, rfl, by decide +kernel, by decide +kernel⟩
theorem ok_is_whole {f : Addr} {fd : FuncData} (T : Txt K mg ca) (F : Fun K "is_whole" "is_whole" s_is_whole f fd) (gf : mg "is_whole" = some (.ref f))  : Cal P w K mg base ca "is_whole" 1 [] 1 (m_is_whole (ρ := (DR w))) := by
  have sc := sc_is_whole
  refine ⟨f, fd, ["thing"], fn_mir F sc rfl (by decide) (fun cdv A outer s H E hr tk hx hp => ?_), gf, F.kp, F.binds fun _ _ _ _ _ _ us hl => match us, hl with | [_], _ => rfl⟩
  exact (bm_one (sm_ret (em_andV (em_isi T.b_isinstance T.b_int (em_var 0)) (em_one (em_notV (em_isi T.b_isinstance T.b_bool (em_var 0)))))))
abbrev s_is_row_of : Stmt := (topS 6)
theorem sc_is_row_of : FnScope ["thing", "many"] ["thing", "many"] (defScope s_is_row_of) := ⟨rfl, rfl, rfl, by decide +kernel, rfl, by decide +kernel, by decide +kernel⟩
theorem ok_is_row_of {f : Addr} {fd : FuncData} (T : Txt K mg ca) (F : Fun K "is_row_of" "is_row_of" s_is_row_of f fd) (gf : mg "is_row_of" = some (.ref f))  : Cal P w K mg base ca "is_row_of" 1 [] 2 (m_is_row_of (ρ := (DR w))) := by
  have sc := sc_is_row_of
  refine ⟨f, fd, ["thing", "many"], fn_mir F sc rfl (by decide) (fun cdv A outer s H E hr tk hx hp => ?_), gf, F.kp, F.binds fun _ _ _ _ _ _ us hl => match us, hl with | [_, _], _ => rfl⟩
  exact (bm_one (sm_ret (em_andV (em_isi T.b_isinstance T.b_tuple (em_var 0)) (em_one (em_eq hr.units (em_callB T.b_len call_len callm_len (am_cons (em_var 0) am_nil)) (em_var 1))))))
abbrev s_is_end : Stmt := (topS 8)
theorem sc_is_end : FnScope ["thing"] ["thing"] (defScope s_is_end) := ⟨rfl, rfl, rfl, by decide +kernel, rfl, by decide +kernel, by decide +kernel⟩
theorem ok_is_end {f : Addr} {fd : FuncData} (T : Txt K mg ca) (F : Fun K "is_end" "is_end" s_is_end f fd) (gf : mg "is_end" = some (.ref f)) (G_is_whole : Cal P w K mg base ca "is_whole" 1 [] 1 (m_is_whole (ρ := (DR w)))) : Cal P w K mg base ca "is_end" 2 [] 1 (m_is_end (ρ := (DR w))) := by
  have sc := sc_is_end
  refine ⟨f, fd, ["thing"], fn_mir F sc rfl (by decide) (fun cdv A outer s H E hr tk hx hp => ?_), gf, F.kp, F.binds fun _ _ _ _ _ _ us hl => match us, hl with | [_], _ => rfl⟩
  exact (bm_one (sm_ret (em_orV (em_is (em_var 0) em_non) (em_one (em_call G_is_whole hr (by decide) hx (fun _ _ h => h) (km_cons (em_var 0) km_nil))))))
abbrev s_is_deed : Stmt := (topS 9)
theorem sc_is_deed : FnScope ["thing", "add", "low", "high"] ["thing"] (defScope s_is_deed) := ⟨rfl, rfl, rfl, by decide +kernel, rfl, by decide +kernel, by decide +kernel⟩
theorem ok_is_deed {f : Addr} {fd : FuncData} (T : Txt K mg ca) (F : Fun K "is_deed" "is_deed" s_is_deed f fd) (gf : mg "is_deed" = some (.ref f)) (G_is_whole : Cal P w K mg base ca "is_whole" 1 [] 1 (m_is_whole (ρ := (DR w)))) (G_is_row_of : Cal P w K mg base ca "is_row_of" 1 [] 2 (m_is_row_of (ρ := (DR w)))) (G_is_end : Cal P w K mg base ca "is_end" 2 [] 1 (m_is_end (ρ := (DR w)))) : Cal P w K mg base ca "is_deed" 3 [] 1 (m_is_deed (ρ := (DR w))) := by
  have sc := sc_is_deed
  refine ⟨f, fd, ["thing"], fn_mir F sc rfl (by decide) (fun cdv A outer s H E hr tk hx hp => ?_), gf, F.kp, F.binds fun _ _ _ _ _ _ us hl => match us, hl with | [_], _ => rfl⟩
  exact (bm_cons (sm_if (WM.tm (wm_or (tm_not (tm_val (em_call G_is_row_of hr (by decide) hx (fun _ _ h => h) (km_cons (em_var 0) (km_cons em_int km_nil))))) (wm_or (tm_not (tm_val (em_call G_is_whole hr (by decide) hx (fun _ _ h => h) (km_cons (em_ix (em_var 0) em_int) km_nil)))) (wm_or (tm_not (tm_val (em_call G_is_end hr (by decide) hx (fun _ _ h => h) (km_cons (em_ix (em_var 0) em_int) km_nil)))) (wm_or1 (tm_not (tm_val (em_call G_is_end hr (by decide) hx (fun _ _ h => h) (km_cons (em_ix (em_var 0) em_int) km_nil))))))))) (bm_one (sm_ret em_bl)) bm_nil) (bm_cons (sm_asg (em_var 0) (gm_tup rfl (gms_cons (gm_name (i := 1) (nps rfl) sc.nd) (gms_cons (gm_name (i := 2) (nps rfl) sc.nd) (gms_cons (gm_name (i := 3) (nps rfl) sc.nd) gms_nil))))) (bm_cons (sm_if (WM.tm (wm_or (tm_is (em_var 2) em_non) (wm_or1 (tm_is (em_var 3) em_non)))) (bm_one (sm_ret em_bl)) bm_nil) (bm_one (sm_ret (em_orV (em_lt (em_var 2) (em_var 3)) (em_one (em_andV (em_eq hr.units (em_var 2) (em_var 3)) (em_one (em_eq hr.units (em_var 1) em_int))))))))))
abbrev s_put_through : Stmt := (topS 10)
theorem sc_put_through : FnScope ["deed", "value", "add", "low", "high", "found"] ["deed", "value"] (defScope s_put_through) := ⟨rfl, rfl, rfl, by decide +kernel, rfl, by decide +kernel, by decide +kernel⟩
theorem ok_put_through {f : Addr} {fd : FuncData} (T : Txt K mg ca) (F : Fun K "put_through" "put_through" s_put_through f fd) (gf : mg "put_through" = some (.ref f))  : Cal P w K mg base ca "put_through" 1 [] 2 (m_put_through (ρ := (DR w))) := by
  have sc := sc_put_through
  refine ⟨f, fd, ["deed", "value"], fn_mir F sc rfl (by decide) (fun cdv A outer s H E hr tk hx hp => ?_), gf, F.kp, F.binds fun _ _ _ _ _ _ us hl => match us, hl with | [_, _], _ => rfl⟩
  exact (bm_cons (sm_asg (em_var 0) (gm_tup rfl (gms_cons (gm_name (i := 2) (nps rfl) sc.nd) (gms_cons (gm_name (i := 3) (nps rfl) sc.nd) (gms_cons (gm_name (i := 4) (nps rfl) sc.nd) gms_nil))))) (bm_cons (sm_set (i := 5) (nps rfl) sc.nd (em_frz (em_add (em_var 1) (em_var 2)))) (bm_cons (sm_if (tm_isnot (em_var 3) em_non) (bm_one (sm_set (i := 5) (nps rfl) sc.nd (em_frz (em_callB T.b_max (call_max2 rfl) callm_max2 (am_cons (em_var 3) (am_cons (em_var 5) am_nil)))))) bm_nil) (bm_one (sm_ret (em_ifExp (tm_is (em_var 4) em_non) (em_var 5) (em_callB T.b_min (call_min2 rfl) callm_min2 (am_cons (em_var 4) (am_cons (em_var 5) am_nil)))))))))
abbrev s_is_board : Stmt := (topS 14)
theorem sc_is_board : FnScope ["thing", "value"] ["thing"] (defScope s_is_board) := ⟨rfl, rfl, rfl, by decide +kernel, rfl, by decide +kernel, by decide +kernel⟩
theorem ok_is_board {f : Addr} {fd : FuncData} (T : Txt K mg ca) (F : Fun K "is_board" "is_board" s_is_board f fd) (gf : mg "is_board" = some (.ref f)) (G_is_whole : Cal P w K mg base ca "is_whole" 1 [] 1 (m_is_whole (ρ := (DR w)))) : Cal P w K mg base ca "is_board" 2 [] 1 (m_is_board (ρ := (DR w))) := by
  have sc := sc_is_board
  refine ⟨f, fd, ["thing"], fn_mir F sc rfl (by decide) (fun cdv A outer s H E hr tk hx hp => ?_), gf, F.kp, F.binds fun _ _ _ _ _ _ us hl => match us, hl with | [_], _ => rfl⟩
  exact (bm_one (sm_ret (em_andV (em_isi T.b_isinstance T.b_tuple (em_var 0)) (em_andV (em_chain op_leB op_leB em_int (em_callB T.b_len call_len callm_len (am_cons (em_var 0) am_nil)) (em_globE T.g_MOST_BOXES)) (em_one (em_callB T.b_all (cr_all rfl) callm_all (am_cons (em_lc (own := [("value", 1)]) rfl sc.nd (im_seq (em_var 0)) (blkOk_by (by show blkC ["thing", "value"] (defScope s_is_board) _ _ = true; decide +kernel)) (fun _ _ _ _ _ => (gm_name (i := 1) (nps rfl) sc.nd)) (fun _ _ _ _ _ => qm_nil) (fun _ _ _ _ _ => (em_call G_is_whole hr (by decide) passL (fun _ _ h => h.elim) (km_cons (em_var 1) km_nil))) (sub2 rfl) (nps2 rfl)) am_nil)))))))
abbrev s_want_board : Stmt := (topS 15)
theorem sc_want_board : FnScope ["board"] ["board"] (defScope s_want_board) := ⟨rfl, rfl, rfl, by decide +kernel, rfl, by decide +kernel, by decide +kernel⟩
theorem ok_want_board {f : Addr} {fd : FuncData} (T : Txt K mg ca) (F : Fun K "want_board" "want_board" s_want_board f fd) (gf : mg "want_board" = some (.ref f)) (G_is_board : Cal P w K mg base ca "is_board" 2 [] 1 (m_is_board (ρ := (DR w)))) : Cal P w K mg base ca "want_board" 3 [] 1 (m_want_board (ρ := (DR w))) := by
  have sc := sc_want_board
  refine ⟨f, fd, ["board"], fn_mir F sc rfl (by decide) (fun cdv A outer s H E hr tk hx hp => ?_), gf, F.kp, F.binds fun _ _ _ _ _ _ us hl => match us, hl with | [_], _ => rfl⟩
  exact (bm_one (sm_if (tm_not (tm_val (em_call G_is_board hr (by decide) hx (fun _ _ h => h) (km_cons (em_var 0) km_nil)))) (bm_one (sm_raise tk T.x_NoBoard fun _ _ h => h)) bm_nil))
abbrev s_is_ask : Stmt := (topS 16)
theorem sc_is_ask : FnScope ["board", "thing"] ["board", "thing"] (defScope s_is_ask) := ⟨rfl, rfl, rfl, by decide +kernel, rfl, by decide +kernel, by decide +kernel⟩
theorem ok_is_ask {f : Addr} {fd : FuncData} (T : Txt K mg ca) (F : Fun K "is_ask" "is_ask" s_is_ask f fd) (gf : mg "is_ask" = some (.ref f)) (G_is_whole : Cal P w K mg base ca "is_whole" 1 [] 1 (m_is_whole (ρ := (DR w)))) (G_is_deed : Cal P w K mg base ca "is_deed" 3 [] 1 (m_is_deed (ρ := (DR w)))) : Cal P w K mg base ca "is_ask" 4 [] 2 (m_is_ask (ρ := (DR w))) := by
  have sc := sc_is_ask
  refine ⟨f, fd, ["board", "thing"], fn_mir F sc rfl (by decide) (fun cdv A outer s H E hr tk hx hp => ?_), gf, F.kp, F.binds fun _ _ _ _ _ _ us hl => match us, hl with | [_, _], _ => rfl⟩
  exact (bm_cons (sm_if (WM.tm (wm_or (tm_not (tm_val (em_isi T.b_isinstance T.b_tuple (em_var 1)))) (wm_or (tm_ne hr.units (em_callB T.b_len call_len callm_len (am_cons (em_var 1) am_nil)) em_int) (wm_or (tm_not (tm_val (em_call G_is_whole hr (by decide) hx (fun _ _ h => h) (km_cons (em_ix (em_var 1) em_int) km_nil)))) (wm_or1 (tm_not (tm_val (em_call G_is_whole hr (by decide) hx (fun _ _ h => h) (km_cons (em_ix (em_var 1) em_int) km_nil))))))))) (bm_one (sm_ret em_bl)) bm_nil) (bm_one (sm_ret (em_andV (em_chain op_leB op_ltB em_int (em_ix (em_var 1) em_int) (em_globE T.g_HANDS)) (em_andV (em_chain op_leB op_ltB em_int (em_ix (em_var 1) em_int) (em_callB T.b_len call_len callm_len (am_cons (em_var 0) am_nil))) (em_one (em_call G_is_deed hr (by decide) hx (fun _ _ h => h) (km_cons (em_ix (em_var 1) em_int) km_nil))))))))
abbrev s_are_times : Stmt := (topS 21)
theorem sc_are_times : FnScope ["begun", "ended"] ["begun", "ended"] (defScope s_are_times) := ⟨rfl, rfl, rfl, by decide +kernel, rfl, by decide +kernel, by decide +kernel⟩
theorem ok_are_times {f : Addr} {fd : FuncData} (T : Txt K mg ca) (F : Fun K "are_times" "are_times" s_are_times f fd) (gf : mg "are_times" = some (.ref f)) (G_is_whole : Cal P w K mg base ca "is_whole" 1 [] 1 (m_is_whole (ρ := (DR w)))) : Cal P w K mg base ca "are_times" 2 [] 2 (m_are_times (ρ := (DR w))) := by
  have sc := sc_are_times
  refine ⟨f, fd, ["begun", "ended"], fn_mir F sc rfl (by decide) (fun cdv A outer s H E hr tk hx hp => ?_), gf, F.kp, F.binds fun _ _ _ _ _ _ us hl => match us, hl with | [_, _], _ => rfl⟩
  exact (bm_one (sm_ret (em_andV (em_call G_is_whole hr (by decide) hx (fun _ _ h => h) (km_cons (em_var 0) km_nil)) (em_andV (em_call G_is_whole hr (by decide) hx (fun _ _ h => h) (km_cons (em_var 1) km_nil)) (em_one (em_chain op_leB op_leB em_int (em_var 0) (em_var 1)))))))
abbrev s_is_call : Stmt := (topS 22)
theorem sc_is_call : FnScope ["board", "thing"] ["board", "thing"] (defScope s_is_call) := ⟨rfl, rfl, rfl, by decide +kernel, rfl, by decide +kernel, by decide +kernel⟩
theorem ok_is_call {f : Addr} {fd : FuncData} (T : Txt K mg ca) (F : Fun K "is_call" "is_call" s_is_call f fd) (gf : mg "is_call" = some (.ref f)) (G_is_whole : Cal P w K mg base ca "is_whole" 1 [] 1 (m_is_whole (ρ := (DR w)))) (G_is_ask : Cal P w K mg base ca "is_ask" 4 [] 2 (m_is_ask (ρ := (DR w)))) (G_are_times : Cal P w K mg base ca "are_times" 2 [] 2 (m_are_times (ρ := (DR w)))) : Cal P w K mg base ca "is_call" 5 [] 2 (m_is_call (ρ := (DR w))) := by
  have sc := sc_is_call
  refine ⟨f, fd, ["board", "thing"], fn_mir F sc rfl (by decide) (fun cdv A outer s H E hr tk hx hp => ?_), gf, F.kp, F.binds fun _ _ _ _ _ _ us hl => match us, hl with | [_, _], _ => rfl⟩
  exact (bm_cons (sm_if (WM.tm (wm_or (tm_not (tm_val (em_isi T.b_isinstance T.b_tuple (em_var 1)))) (wm_or1 (tm_ne hr.units (em_callB T.b_len call_len callm_len (am_cons (em_var 1) am_nil)) (em_globE T.g_CALL_PARTS))))) (bm_one (sm_ret em_bl)) bm_nil) (bm_one (sm_ret (em_andV (em_call G_is_ask hr (by decide) hx (fun _ _ h => h) (km_cons (em_var 0) (km_cons (em_sl (em_var 1) om_none (om_some em_int)) km_nil))) (em_andV (em_call G_are_times hr (by decide) hx (fun _ _ h => h) (km_cons (em_ix (em_var 1) em_int) (km_cons (em_ix (em_var 1) em_int) km_nil))) (em_one (em_call G_is_whole hr (by decide) hx (fun _ _ h => h) (km_cons (em_ix (em_var 1) em_int) km_nil))))))))
abbrev s_numbers_at : Stmt := (topS 23)
theorem sc_numbers_at : FnScope ["calls", "box", "k", "call"] ["calls", "box"] (defScope s_numbers_at) := ⟨rfl, rfl, rfl, by decide +kernel, rfl, by decide +kernel, by decide +kernel⟩
theorem ok_numbers_at {f : Addr} {fd : FuncData} (T : Txt K mg ca) (F : Fun K "numbers_at" "numbers_at" s_numbers_at f fd) (gf : mg "numbers_at" = some (.ref f))  : Cal P w K mg base ca "numbers_at" 1 [] 2 (m_numbers_at (ρ := (DR w))) := by
  have sc := sc_numbers_at
  refine ⟨f, fd, ["calls", "box"], fn_mir F sc rfl (by decide) (fun cdv A outer s H E hr tk hx hp => ?_), gf, F.kp, F.binds fun _ _ _ _ _ _ us hl => match us, hl with | [_, _], _ => rfl⟩
  exact (bm_one (sm_ret (em_lc (own := [("k", 2), ("call", 3)]) rfl sc.nd (im_enum T.b_enumerate (em_var 0)) (blkOk_by (by show blkC ["calls", "box", "k", "call"] (defScope s_numbers_at) _ _ = true; decide +kernel)) (fun _ _ _ _ _ => (gm_tup rfl (gms_cons (gm_name (i := 2) (nps rfl) sc.nd) (gms_cons (gm_name (i := 3) (nps rfl) sc.nd) gms_nil)))) (fun _ _ _ _ _ => (qm_one (tm_eq hr.units (em_ix (em_var 3) em_int) (em_var 1)))) (fun _ _ _ _ _ => (em_var 2)) (sub2 rfl) (nps2 rfl))))
abbrev s_are_calls : Stmt := (topS 24)
theorem sc_are_calls : FnScope ["board", "thing", "box", "one"] ["board", "thing"] (defScope s_are_calls) := ⟨rfl, rfl, rfl, by decide +kernel, rfl, by decide +kernel, by decide +kernel⟩
theorem ok_are_calls {f : Addr} {fd : FuncData} (T : Txt K mg ca) (F : Fun K "are_calls" "are_calls" s_are_calls f fd) (gf : mg "are_calls" = some (.ref f)) (G_want_board : Cal P w K mg base ca "want_board" 3 [] 1 (m_want_board (ρ := (DR w)))) (G_is_call : Cal P w K mg base ca "is_call" 5 [] 2 (m_is_call (ρ := (DR w)))) (G_numbers_at : Cal P w K mg base ca "numbers_at" 1 [] 2 (m_numbers_at (ρ := (DR w)))) : Cal P w K mg base ca "are_calls" 6 [] 2 (m_are_calls (ρ := (DR w))) := by
  have sc := sc_are_calls
  refine ⟨f, fd, ["board", "thing"], fn_mir F sc rfl (by decide) (fun cdv A outer s H E hr tk hx hp => ?_), gf, F.kp, F.binds fun _ _ _ _ _ _ us hl => match us, hl with | [_, _], _ => rfl⟩
  exact (bm_cons (sm_expr (em_call G_want_board hr (by decide) hx (fun _ _ h => h) (km_cons (em_var 0) km_nil))) (bm_cons (sm_if (WM.tm (wm_or (tm_not (tm_val (em_isi T.b_isinstance T.b_tuple (em_var 1)))) (wm_or1 (tm_gt (em_callB T.b_len call_len callm_len (am_cons (em_var 1) am_nil)) (em_globE T.g_MOST_CALLS))))) (bm_one (sm_ret em_bl)) bm_nil) (bm_cons (sm_if (tm_not (tm_val (em_callB T.b_all (cr_all rfl) callm_all (am_cons (em_lc (own := [("one", 3)]) rfl sc.nd (im_seq (em_var 1)) (blkOk_by (by show blkC ["board", "thing", "box", "one"] (defScope s_are_calls) _ _ = true; decide +kernel)) (fun _ _ _ _ _ => (gm_name (i := 3) (nps rfl) sc.nd)) (fun _ _ _ _ _ => qm_nil) (fun _ _ _ _ _ => (em_call G_is_call hr (by decide) passL (fun _ _ h => h.elim) (km_cons (em_var 0) (km_cons (em_var 3) km_nil)))) (sub2 rfl) (nps2 rfl)) am_nil)))) (bm_one (sm_ret em_bl)) bm_nil) (bm_one (sm_ret (em_callB T.b_all (cr_all rfl) callm_all (am_cons (em_lc (own := [("box", 2)]) rfl sc.nd (im_range1 T.b_range (em_callB T.b_len call_len callm_len (am_cons (em_var 0) am_nil))) (blkOk_by (by show blkC ["board", "thing", "box", "one"] (defScope s_are_calls) _ _ = true; decide +kernel)) (fun _ _ _ _ _ => (gm_name (i := 2) (nps rfl) sc.nd)) (fun _ _ _ _ _ => qm_nil) (fun _ _ _ _ _ => (em_le (em_callB T.b_len call_len callm_len (am_cons (em_call G_numbers_at hr (by decide) passL (fun _ _ h => h.elim) (km_cons (em_var 1) (km_cons (em_var 2) km_nil))) am_nil)) (em_globE T.g_MOST_AT_A_BOX))) (sub2 rfl) (nps2 rfl)) am_nil)))))))
abbrev s_want_calls : Stmt := (topS 25)
theorem sc_want_calls : FnScope ["board", "calls"] ["board", "calls"] (defScope s_want_calls) := ⟨rfl, rfl, rfl, by decide +kernel, rfl, by decide +kernel, by decide +kernel⟩
theorem ok_want_calls {f : Addr} {fd : FuncData} (T : Txt K mg ca) (F : Fun K "want_calls" "want_calls" s_want_calls f fd) (gf : mg "want_calls" = some (.ref f)) (G_are_calls : Cal P w K mg base ca "are_calls" 6 [] 2 (m_are_calls (ρ := (DR w)))) : Cal P w K mg base ca "want_calls" 7 [] 2 (m_want_calls (ρ := (DR w))) := by
  have sc := sc_want_calls
  refine ⟨f, fd, ["board", "calls"], fn_mir F sc rfl (by decide) (fun cdv A outer s H E hr tk hx hp => ?_), gf, F.kp, F.binds fun _ _ _ _ _ _ us hl => match us, hl with | [_, _], _ => rfl⟩
  exact (bm_one (sm_if (tm_not (tm_val (em_call G_are_calls hr (by decide) hx (fun _ _ h => h) (km_cons (em_var 0) (km_cons (em_var 1) km_nil))))) (bm_one (sm_raise tk T.x_NoCalls fun _ _ h => h)) bm_nil))
abbrev s_are_numbers_of : Stmt := (topS 26)
theorem sc_are_numbers_of : FnScope ["thing", "numbers", "one"] ["thing", "numbers"] (defScope s_are_numbers_of) := ⟨rfl, rfl, rfl, by decide +kernel, rfl, by decide +kernel, by decide +kernel⟩
theorem ok_are_numbers_of {f : Addr} {fd : FuncData} (T : Txt K mg ca) (F : Fun K "are_numbers_of" "are_numbers_of" s_are_numbers_of f fd) (gf : mg "are_numbers_of" = some (.ref f)) (G_is_whole : Cal P w K mg base ca "is_whole" 1 [] 1 (m_is_whole (ρ := (DR w)))) : Cal P w K mg base ca "are_numbers_of" 2 [] 2 (m_are_numbers_of (ρ := (DR w))) := by
  have sc := sc_are_numbers_of
  refine ⟨f, fd, ["thing", "numbers"], fn_mir F sc rfl (by decide) (fun cdv A outer s H E hr tk hx hp => ?_), gf, F.kp, F.binds fun _ _ _ _ _ _ us hl => match us, hl with | [_, _], _ => rfl⟩
  exact (bm_cons (sm_if (WM.tm (wm_or (tm_not (tm_val (em_isi T.b_isinstance T.b_tuple (em_var 0)))) (wm_or1 (tm_not (tm_val (em_callB T.b_all (cr_all rfl) callm_all (am_cons (em_lc (own := [("one", 2)]) rfl sc.nd (im_seq (em_var 0)) (blkOk_by (by show blkC ["thing", "numbers", "one"] (defScope s_are_numbers_of) _ _ = true; decide +kernel)) (fun _ _ _ _ _ => (gm_name (i := 2) (nps rfl) sc.nd)) (fun _ _ _ _ _ => qm_nil) (fun _ _ _ _ _ => (em_call G_is_whole hr (by decide) passL (fun _ _ h => h.elim) (km_cons (em_var 2) km_nil))) (sub2 rfl) (nps2 rfl)) am_nil))))))) (bm_one (sm_ret em_bl)) bm_nil) (bm_one (sm_ret (em_eq hr.units (em_callB T.b_sorted cr_sortedX callm_sorted (am_cons (em_var 0) am_nil)) (em_var 1)))))
abbrev s_is_ahead : Stmt := (topS 27)
theorem sc_is_ahead : FnScope ["calls", "k", "j"] ["calls", "k", "j"] (defScope s_is_ahead) := ⟨rfl, rfl, rfl, by decide +kernel, rfl, by decide +kernel, by decide +kernel⟩
theorem ok_is_ahead {f : Addr} {fd : FuncData} (T : Txt K mg ca) (F : Fun K "is_ahead" "is_ahead" s_is_ahead f fd) (gf : mg "is_ahead" = some (.ref f))  : Cal P w K mg base ca "is_ahead" 1 [] 3 (m_is_ahead (ρ := (DR w))) := by
  have sc := sc_is_ahead
  refine ⟨f, fd, ["calls", "k", "j"], fn_mir F sc rfl (by decide) (fun cdv A outer s H E hr tk hx hp => ?_), gf, F.kp, F.binds fun _ _ _ _ _ _ us hl => match us, hl with | [_, _, _], _ => rfl⟩
  exact (bm_one (sm_ret (em_lt (em_ix (em_ix (em_var 0) (em_var 1)) em_int) (em_ix (em_ix (em_var 0) (em_var 2)) em_int))))
abbrev s_keeps_ahead : Stmt := (topS 28)
theorem sc_keeps_ahead : FnScope ["calls", "row", "latest", "k"] ["calls", "row"] (defScope s_keeps_ahead) := ⟨rfl, rfl, rfl, by decide +kernel, rfl, by decide +kernel, by decide +kernel⟩
theorem ok_keeps_ahead {f : Addr} {fd : FuncData} (T : Txt K mg ca) (F : Fun K "keeps_ahead" "keeps_ahead" s_keeps_ahead f fd) (gf : mg "keeps_ahead" = some (.ref f))  : Cal P w K mg base ca "keeps_ahead" 1 [] 2 (m_keeps_ahead (ρ := (DR w))) := by
  have sc := sc_keeps_ahead
  refine ⟨f, fd, ["calls", "row"], fn_mir F sc rfl (by decide) (fun cdv A outer s H E hr tk hx hp => ?_), gf, F.kp, F.binds fun _ _ _ _ _ _ us hl => match us, hl with | [_, _], _ => rfl⟩
  exact (bm_cons (sm_set (i := 2) (nps rfl) sc.nd (em_frz em_int)) (bm_cons (sm_for hp rfl (im_seq (em_var 1)) (gm_name (i := 3) (nps rfl) sc.nd) (bm_cons (sm_if (tm_lt (em_ix (em_ix (em_var 0) (em_var 3)) em_int) (em_var 2)) (bm_one (sm_ret em_bl)) bm_nil) (bm_one (sm_set (i := 2) (nps rfl) sc.nd (em_frz (em_callB T.b_max (call_max2 rfl) callm_max2 (am_cons (em_var 2) (am_cons (em_ix (em_ix (em_var 0) (em_var 3)) em_int) am_nil)))))))) (bm_one (sm_ret em_bl))))
abbrev s_answers_so : Stmt := (topS 29)
theorem sc_answers_so : FnScope ["board", "calls", "row", "values", "k", "hand", "box", "deed", "begun", "ended", "answer"] ["board", "calls", "row"] (defScope s_answers_so) := ⟨rfl, rfl, rfl, by decide +kernel, rfl, by decide +kernel, by decide +kernel⟩
theorem ok_answers_so {f : Addr} {fd : FuncData} (T : Txt K mg ca) (F : Fun K "answers_so" "answers_so" s_answers_so f fd) (gf : mg "answers_so" = some (.ref f)) (G_put_through : Cal P w K mg base ca "put_through" 1 [] 2 (m_put_through (ρ := (DR w)))) : Cal P w K mg base ca "answers_so" 2 [] 3 (m_answers_so (ρ := (DR w))) := by
  have sc := sc_answers_so
  refine ⟨f, fd, ["board", "calls", "row"], fn_mir F sc rfl (by decide) (fun cdv A outer s H E hr tk hx hp => ?_), gf, F.kp, F.binds fun _ _ _ _ _ _ us hl => match us, hl with | [_, _, _], _ => rfl⟩
  exact (bm_cons (sm_set (i := 3) (nps rfl) sc.nd (em_callTy T.b_list call_list_of callm_list (am_cons (em_var 0) am_nil))) (bm_cons (sm_for hp rfl (im_seq (em_var 2)) (gm_name (i := 4) (nps rfl) sc.nd) (bm_cons (sm_asg (em_ix (em_var 1) (em_var 4)) (gm_tup rfl (gms_cons (gm_name (i := 5) (nps rfl) sc.nd) (gms_cons (gm_name (i := 6) (nps rfl) sc.nd) (gms_cons (gm_name (i := 7) (nps rfl) sc.nd) (gms_cons (gm_name (i := 8) (nps rfl) sc.nd) (gms_cons (gm_name (i := 9) (nps rfl) sc.nd) (gms_cons (gm_name (i := 10) (nps rfl) sc.nd) gms_nil)))))))) (bm_cons (sm_if (tm_ne hr.units (em_ixOwn (i := 3) (em_var 6)) (em_var 10)) (bm_one (sm_ret em_bl)) bm_nil) (bm_one (sm_asg (em_call G_put_through hr (by decide) hx (fun _ _ h => h) (km_cons (em_var 7) (km_cons (em_var 10) km_nil))) (gm_ix (i := 3) (em_var 6))))))) (bm_one (sm_ret em_bl))))
abbrev s_fits : Stmt := (topS 30)
theorem sc_fits : FnScope ["board", "calls", "order"] ["board", "calls", "order"] (defScope s_fits) := ⟨rfl, rfl, rfl, by decide +kernel, rfl, by decide +kernel, by decide +kernel⟩
theorem ok_fits {f : Addr} {fd : FuncData} (T : Txt K mg ca) (F : Fun K "fits" "fits" s_fits f fd) (gf : mg "fits" = some (.ref f)) (G_want_calls : Cal P w K mg base ca "want_calls" 7 [] 2 (m_want_calls (ρ := (DR w)))) (G_are_numbers_of : Cal P w K mg base ca "are_numbers_of" 2 [] 2 (m_are_numbers_of (ρ := (DR w)))) (G_keeps_ahead : Cal P w K mg base ca "keeps_ahead" 1 [] 2 (m_keeps_ahead (ρ := (DR w)))) (G_answers_so : Cal P w K mg base ca "answers_so" 2 [] 3 (m_answers_so (ρ := (DR w)))) : Cal P w K mg base ca "fits" 8 [] 3 (m_fits (ρ := (DR w))) := by
  have sc := sc_fits
  refine ⟨f, fd, ["board", "calls", "order"], fn_mir F sc rfl (by decide) (fun cdv A outer s H E hr tk hx hp => ?_), gf, F.kp, F.binds fun _ _ _ _ _ _ us hl => match us, hl with | [_, _, _], _ => rfl⟩
  exact (bm_cons (sm_expr (em_call G_want_calls hr (by decide) hx (fun _ _ h => h) (km_cons (em_var 0) (km_cons (em_var 1) km_nil)))) (bm_cons (sm_if (tm_not (tm_val (em_call G_are_numbers_of hr (by decide) hx (fun _ _ h => h) (km_cons (em_var 2) (km_cons (em_range_list T.b_list T.b_range (em_callB T.b_len call_len callm_len (am_cons (em_var 1) am_nil))) km_nil))))) (bm_one (sm_ret em_bl)) bm_nil) (bm_one (sm_ret (em_andV (em_call G_keeps_ahead hr (by decide) hx (fun _ _ h => h) (km_cons (em_var 1) (km_cons (em_var 2) km_nil))) (em_one (em_call G_answers_so hr (by decide) hx (fun _ _ h => h) (km_cons (em_var 0) (km_cons (em_var 1) (km_cons (em_var 2) km_nil))))))))))
abbrev s_may_be_next : Stmt := (topS 31)
theorem sc_may_be_next : FnScope ["calls", "left", "k", "value", "j"] ["calls", "left", "k", "value"] (defScope s_may_be_next) := ⟨rfl, rfl, rfl, by decide +kernel, rfl, by decide +kernel, by decide +kernel⟩
theorem ok_may_be_next {f : Addr} {fd : FuncData} (T : Txt K mg ca) (F : Fun K "may_be_next" "may_be_next" s_may_be_next f fd) (gf : mg "may_be_next" = some (.ref f)) (G_is_ahead : Cal P w K mg base ca "is_ahead" 1 [] 3 (m_is_ahead (ρ := (DR w)))) : Cal P w K mg base ca "may_be_next" 2 [] 4 (m_may_be_next (ρ := (DR w))) := by
  have sc := sc_may_be_next
  refine ⟨f, fd, ["calls", "left", "k", "value"], fn_mir F sc rfl (by decide) (fun cdv A outer s H E hr tk hx hp => ?_), gf, F.kp, F.binds fun _ _ _ _ _ _ us hl => match us, hl with | [_, _, _, _], _ => rfl⟩
  exact (bm_one (sm_ret (em_andV (em_eq hr.units (em_ix (em_ix (em_var 0) (em_var 2)) em_int) (em_var 3)) (em_one (em_notV (em_callB T.b_any (cr_any rfl) callm_any (am_cons (em_lc (own := [("j", 4)]) rfl sc.nd (im_seq (em_var 1)) (blkOk_by (by show blkC ["calls", "left", "k", "value", "j"] (defScope s_may_be_next) _ _ = true; decide +kernel)) (fun _ _ _ _ _ => (gm_name (i := 4) (nps rfl) sc.nd)) (fun _ _ _ _ _ => qm_nil) (fun _ _ _ _ _ => (em_call G_is_ahead hr (by decide) passL (fun _ _ h => h.elim) (km_cons (em_var 0) (km_cons (em_var 4) (km_cons (em_var 2) km_nil))))) (sub2 rfl) (nps2 rfl)) am_nil)))))))
abbrev s_next_states : Stmt := (topS 32)
theorem sc_next_states : FnScope ["calls", "state", "left", "value", "found", "k", "rest", "j"] ["calls", "state"] (defScope s_next_states) := ⟨rfl, rfl, rfl, by decide +kernel, rfl, by decide +kernel, by decide +kernel⟩
theorem ok_next_states {f : Addr} {fd : FuncData} (T : Txt K mg ca) (F : Fun K "next_states" "next_states" s_next_states f fd) (gf : mg "next_states" = some (.ref f)) (G_put_through : Cal P w K mg base ca "put_through" 1 [] 2 (m_put_through (ρ := (DR w)))) (G_may_be_next : Cal P w K mg base ca "may_be_next" 2 [] 4 (m_may_be_next (ρ := (DR w)))) : Cal P w K mg base ca "next_states" 3 [] 2 (m_next_states (ρ := (DR w))) := by
  have sc := sc_next_states
  refine ⟨f, fd, ["calls", "state"], fn_mir F sc rfl (by decide) (fun cdv A outer s H E hr tk hx hp => ?_), gf, F.kp, F.binds fun _ _ _ _ _ _ us hl => match us, hl with | [_, _], _ => rfl⟩
  exact (bm_cons (sm_asg (em_var 1) (gm_tup rfl (gms_cons (gm_name (i := 2) (nps rfl) sc.nd) (gms_cons (gm_name (i := 3) (nps rfl) sc.nd) gms_nil)))) (bm_cons (sm_set (i := 4) (nps rfl) sc.nd (em_lst am_nil)) (bm_cons (sm_for hp rfl (im_seq (em_var 2)) (gm_name (i := 5) (nps rfl) sc.nd) (bm_one (sm_if (tm_val (em_call G_may_be_next hr (by decide) hx (fun _ _ h => h) (km_cons (em_var 0) (km_cons (em_var 2) (km_cons (em_var 5) (km_cons (em_var 3) km_nil)))))) (bm_cons (sm_set (i := 6) (nps rfl) sc.nd (em_frz (em_callTy T.b_tuple call_tuple_of callm_tuple (am_cons (em_lc (own := [("j", 7)]) rfl sc.nd (im_seq (em_var 2)) (blkOk_by (by show blkC ["calls", "state", "left", "value", "found", "k", "rest", "j"] (defScope s_next_states) _ _ = true; decide +kernel)) (fun _ _ _ _ _ => (gm_name (i := 7) (nps rfl) sc.nd)) (fun _ _ _ _ _ => (qm_one (tm_ne hr.units (em_var 7) (em_var 5)))) (fun _ _ _ _ _ => (em_var 7)) (sub2 rfl) (nps2 rfl)) am_nil)))) (bm_one (sm_expr (em_own (i := 4) PySem.F.slot_list_append PySem.F.type_list_append mt_append ownm_append (am_cons (em_tup (am_cons (em_tup (am_cons (em_var 6) (am_cons (em_call G_put_through hr (by decide) hx (fun _ _ h => h) (km_cons (em_ix (em_ix (em_var 0) (em_var 5)) em_int) (km_cons (em_var 3) km_nil))) am_nil))) (am_cons (em_var 5) am_nil))) am_nil))))) bm_nil))) (bm_one (sm_ret (em_move 4))))))
abbrev s_row_to : Stmt := (topS 33)
theorem sc_row_to : FnScope ["reached", "state", "found", "k"] ["reached", "state"] (defScope s_row_to) := ⟨rfl, rfl, rfl, by decide +kernel, rfl, by decide +kernel, by decide +kernel⟩
theorem ok_row_to {f : Addr} {fd : FuncData} (T : Txt K mg ca) (F : Fun K "row_to" "row_to" s_row_to f fd) (gf : mg "row_to" = some (.ref f))  : Cal P w K mg base ca "row_to" 1 [0] 2 (m_row_to (ρ := (DR w))) := by
  have sc := sc_row_to
  refine ⟨f, fd, ["reached", "state"], fn_mir F sc rfl (by decide) (fun cdv A outer s H E hr tk hx hp => ?_), gf, F.kp, F.binds fun _ _ _ _ _ _ us hl => match us, hl with | [_, _], _ => rfl⟩
  exact (bm_cons (sm_set (i := 2) (nps rfl) sc.nd (em_lst am_nil)) (bm_cons (sm_while 100000 hp (tm_isnot (em_tkIx (i := 0) (room65 hr) (em_var 1)) em_non) (bm_cons (sm_asg (em_tkIx (i := 0) (room65 hr) (em_var 1)) (gm_tup rfl (gms_cons (gm_name (i := 1) (nps rfl) sc.nd) (gms_cons (gm_name (i := 3) (nps rfl) sc.nd) gms_nil)))) (bm_one (sm_expr (em_own (i := 2) PySem.F.slot_list_append PySem.F.type_list_append mt_append ownm_append (am_cons (em_var 3) am_nil)))))) (bm_cons (sm_expr (em_own0 (i := 2) PySem.F.slot_list_reverse PySem.F.type_list_reverse mt_reverse ownm_reverse)) (bm_one (sm_ret (em_tupOwn (i := 2) T.b_tuple))))))
abbrev s_order_at : Stmt := (topS 34)
theorem sc_order_at : FnScope ["calls", "numbers", "value", "reached", "waiting", "at", "state", "onward", "k"] ["calls", "numbers", "value"] (defScope s_order_at) := ⟨rfl, rfl, rfl, by decide +kernel, rfl, by decide +kernel, by decide +kernel⟩
theorem ok_order_at {f : Addr} {fd : FuncData} (T : Txt K mg ca) (F : Fun K "order_at" "order_at" s_order_at f fd) (gf : mg "order_at" = some (.ref f)) (G_next_states : Cal P w K mg base ca "next_states" 3 [] 2 (m_next_states (ρ := (DR w)))) (G_row_to : Cal P w K mg base ca "row_to" 1 [0] 2 (m_row_to (ρ := (DR w)))) : Cal P w K mg base ca "order_at" 4 [] 3 (m_order_at (ρ := (DR w))) := by
  have sc := sc_order_at
  refine ⟨f, fd, ["calls", "numbers", "value"], fn_mir F sc rfl (by decide) (fun cdv A outer s H E hr tk hx hp => ?_), gf, F.kp, F.binds fun _ _ _ _ _ _ us hl => match us, hl with | [_, _, _], _ => rfl⟩
  exact (bm_cons (sm_set (i := 3) (nps rfl) sc.nd (em_tkDisp (room65 hr) (em_tup (am_cons (em_callTy T.b_tuple call_tuple_of callm_tuple (am_cons (em_var 1) am_nil)) (am_cons (em_var 2) am_nil))) em_non)) (bm_cons (sm_set (i := 4) (nps rfl) sc.nd (em_tkList (i := 3) rfl T.b_list)) (bm_cons (sm_set (i := 5) (nps rfl) sc.nd (em_frz em_int)) (bm_cons (sm_while 100000 hp (tm_lt (em_var 5) (em_peek 4 (em_callB T.b_len call_len callm_len (am_cons (em_var 4) am_nil)))) (bm_cons (sm_set (i := 6) (nps rfl) sc.nd (em_frz (em_ixOwn (i := 4) (em_var 5)))) (bm_cons (sm_if (tm_eq hr.units (em_ix (em_var 6) em_int) (em_tup am_nil)) (bm_one (sm_ret (em_call G_row_to hr (by decide) hx (fun _ _ h => h) (km_io 3 (km_cons (em_var 6) km_nil))))) bm_nil) (bm_cons (sm_for hp rfl (im_seq (em_call G_next_states hr (by decide) hx (fun _ _ h => h) (km_cons (em_var 0) (km_cons (em_var 6) km_nil)))) (gm_tup rfl (gms_cons (gm_name (i := 7) (nps rfl) sc.nd) (gms_cons (gm_name (i := 8) (nps rfl) sc.nd) gms_nil))) (bm_one (sm_if (tm_tkNotIn (i := 3) (room65 hr) (em_var 7)) (bm_cons (sm_asg (em_tup (am_cons (em_var 6) (am_cons (em_var 8) am_nil))) (gm_tk (i := 3) (room65 hr) (em_var 7))) (bm_one (sm_expr (em_own (i := 4) PySem.F.slot_list_append PySem.F.type_list_append mt_append ownm_append (am_cons (em_var 7) am_nil))))) bm_nil))) (bm_one (sm_set (i := 5) (nps rfl) sc.nd (em_frz (em_add (em_var 5) em_int)))))))) (bm_one (sm_ret em_non))))))
abbrev s_box_orders : Stmt := (topS 35)
theorem sc_box_orders : FnScope ["board", "calls", "box", "value"] ["board", "calls"] (defScope s_box_orders) := ⟨rfl, rfl, rfl, by decide +kernel, rfl, by decide +kernel, by decide +kernel⟩
theorem ok_box_orders {f : Addr} {fd : FuncData} (T : Txt K mg ca) (F : Fun K "box_orders" "box_orders" s_box_orders f fd) (gf : mg "box_orders" = some (.ref f)) (G_numbers_at : Cal P w K mg base ca "numbers_at" 1 [] 2 (m_numbers_at (ρ := (DR w)))) (G_order_at : Cal P w K mg base ca "order_at" 4 [] 3 (m_order_at (ρ := (DR w)))) : Cal P w K mg base ca "box_orders" 5 [] 2 (m_box_orders (ρ := (DR w))) := by
  have sc := sc_box_orders
  refine ⟨f, fd, ["board", "calls"], fn_mir F sc rfl (by decide) (fun cdv A outer s H E hr tk hx hp => ?_), gf, F.kp, F.binds fun _ _ _ _ _ _ us hl => match us, hl with | [_, _], _ => rfl⟩
  exact (bm_one (sm_ret (em_lc (own := [("box", 2), ("value", 3)]) rfl sc.nd (im_enum T.b_enumerate (em_var 0)) (blkOk_by (by show blkC ["board", "calls", "box", "value"] (defScope s_box_orders) _ _ = true; decide +kernel)) (fun _ _ _ _ _ => (gm_tup rfl (gms_cons (gm_name (i := 2) (nps rfl) sc.nd) (gms_cons (gm_name (i := 3) (nps rfl) sc.nd) gms_nil)))) (fun _ _ _ _ _ => qm_nil) (fun _ _ _ _ _ => (em_call G_order_at hr (by decide) passL (fun _ _ h => h.elim) (km_cons (em_var 1) (km_cons (em_call G_numbers_at hr (by decide) passL (fun _ _ h => h.elim) (km_cons (em_var 1) (km_cons (em_var 2) km_nil))) (km_cons (em_var 3) km_nil))))) (sub2 rfl) (nps2 rfl))))
abbrev s_laid_together : Stmt := (topS 36)
theorem sc_laid_together : FnScope ["calls", "rows", "fronts", "found", "left", "k", "row", "j"] ["calls", "rows"] (defScope s_laid_together) := ⟨rfl, rfl, rfl, by decide +kernel, rfl, by decide +kernel, by decide +kernel⟩
theorem ok_laid_together {f : Addr} {fd : FuncData} (T : Txt K mg ca) (F : Fun K "laid_together" "laid_together" s_laid_together f fd) (gf : mg "laid_together" = some (.ref f)) (G_is_ahead : Cal P w K mg base ca "is_ahead" 1 [] 3 (m_is_ahead (ρ := (DR w)))) : Cal P w K mg base ca "laid_together" 2 [] 2 (m_laid_together (ρ := (DR w))) := by
  have sc := sc_laid_together
  refine ⟨f, fd, ["calls", "rows"], fn_mir F sc rfl (by decide) (fun cdv A outer s H E hr tk hx hp => ?_), gf, F.kp, F.binds fun _ _ _ _ _ _ us hl => match us, hl with | [_, _], _ => rfl⟩
  exact (bm_cons (sm_setLc (i := 2) (own := [("row", 6)]) true (nps rfl) rfl sc.nd (im_seq (em_var 1)) (blkOk_by (by show blkC ["calls", "rows", "fronts", "found", "left", "k", "row", "j"] (defScope s_laid_together) _ _ = true; decide +kernel)) (fun _ _ _ _ _ => (gm_name (i := 6) (nps rfl) sc.nd)) (fun _ _ _ _ _ => (qm_one (tm_ne hr.units (em_var 6) (em_tup am_nil)))) (fun _ _ _ _ _ => (em_callTy T.b_list call_list_of callm_list (am_cons (em_var 6) am_nil))) (sub2 rfl) (nps2 rfl)) (bm_cons (sm_set (i := 3) (nps rfl) sc.nd (em_lst am_nil)) (bm_cons (sm_while 100000 hp (tm_ne hr.units (em_var 2) (em_lst am_nil)) (bm_cons (sm_set (i := 4) (nps rfl) sc.nd (em_frz (em_callB T.b_sum (cr_sum2 rfl) callm_sum2 (am_cons (em_var 2) (am_cons (em_lst am_nil) am_nil))))) (bm_cons (sm_set (i := 5) (nps rfl) sc.nd (em_frz (em_ix (em_lc (own := [("row", 6)]) rfl sc.nd (im_seq (em_var 2)) (blkOk_by (by show blkC ["calls", "rows", "fronts", "found", "left", "k", "row", "j"] (defScope s_laid_together) _ _ = true; decide +kernel)) (fun _ _ _ _ _ => (gm_name (i := 6) (nps rfl) sc.nd)) (fun _ _ _ _ _ => (qm_one (tm_not (tm_val (em_callB T.b_any (cr_any rfl) callm_any (am_cons (em_lc (own := [("j", 7)]) rfl sc.nd (im_seq (em_var 4)) (blkOk_by (by rfl)) (fun _ _ _ _ _ => (gm_name (i := 7) (nps rfl) sc.nd)) (fun _ _ _ _ _ => qm_nil) (fun _ _ _ _ _ => (em_call G_is_ahead hr (by decide) passL (fun _ _ h => h.elim) (km_cons (em_var 0) (km_cons (em_var 7) (km_cons (em_ix (em_var 6) em_int) km_nil))))) (sub2 rfl) (nps2 rfl)) am_nil)))))) (fun _ _ _ _ _ => (em_ix (em_var 6) em_int)) (sub2 rfl) (nps2 rfl)) em_int))) (bm_cons (sm_expr (em_own (i := 3) PySem.F.slot_list_append PySem.F.type_list_append mt_append ownm_append (am_cons (em_var 5) am_nil))) (bm_cons (sm_setLc (i := 2) (own := [("row", 6)]) true (nps rfl) rfl sc.nd (im_seq (em_var 2)) (blkOk_by (by show blkC ["calls", "rows", "fronts", "found", "left", "k", "row", "j"] (defScope s_laid_together) _ _ = true; decide +kernel)) (fun _ _ _ _ _ => (gm_name (i := 6) (nps rfl) sc.nd)) (fun _ _ _ _ _ => qm_nil) (fun _ _ _ _ _ => (em_lc (own := [("j", 7)]) rfl sc.nd (im_seq (em_var 6)) (blkOk_by (by rfl)) (fun _ _ _ _ _ => (gm_name (i := 7) (nps rfl) sc.nd)) (fun _ _ _ _ _ => (qm_one (tm_ne hr.units (em_var 7) (em_var 5)))) (fun _ _ _ _ _ => (em_var 7)) (sub2 rfl) (nps2 rfl))) (sub2 rfl) (nps2 rfl)) (bm_one (sm_setLc (i := 2) (own := [("row", 6)]) true (nps rfl) rfl sc.nd (im_seq (em_var 2)) (blkOk_by (by show blkC ["calls", "rows", "fronts", "found", "left", "k", "row", "j"] (defScope s_laid_together) _ _ = true; decide +kernel)) (fun _ _ _ _ _ => (gm_name (i := 6) (nps rfl) sc.nd)) (fun _ _ _ _ _ => (qm_one (tm_ne hr.units (em_var 6) (em_lst am_nil)))) (fun _ _ _ _ _ => (em_var 6)) (sub2 rfl) (nps2 rfl)))))))) (bm_one (sm_ret (em_tupOwn (i := 3) T.b_tuple))))))
abbrev s_an_order : Stmt := (topS 37)
theorem sc_an_order : FnScope ["board", "calls", "rows"] ["board", "calls"] (defScope s_an_order) := ⟨rfl, rfl, rfl, by decide +kernel, rfl, by decide +kernel, by decide +kernel⟩
theorem ok_an_order {f : Addr} {fd : FuncData} (T : Txt K mg ca) (F : Fun K "an_order" "an_order" s_an_order f fd) (gf : mg "an_order" = some (.ref f)) (G_want_calls : Cal P w K mg base ca "want_calls" 7 [] 2 (m_want_calls (ρ := (DR w)))) (G_box_orders : Cal P w K mg base ca "box_orders" 5 [] 2 (m_box_orders (ρ := (DR w)))) (G_laid_together : Cal P w K mg base ca "laid_together" 2 [] 2 (m_laid_together (ρ := (DR w)))) : Cal P w K mg base ca "an_order" 8 [] 2 (m_an_order (ρ := (DR w))) := by
  have sc := sc_an_order
  refine ⟨f, fd, ["board", "calls"], fn_mir F sc rfl (by decide) (fun cdv A outer s H E hr tk hx hp => ?_), gf, F.kp, F.binds fun _ _ _ _ _ _ us hl => match us, hl with | [_, _], _ => rfl⟩
  exact (bm_cons (sm_expr (em_call G_want_calls hr (by decide) hx (fun _ _ h => h) (km_cons (em_var 0) (km_cons (em_var 1) km_nil)))) (bm_cons (sm_set (i := 2) (nps rfl) sc.nd (em_frz (em_call G_box_orders hr (by decide) hx (fun _ _ h => h) (km_cons (em_var 0) (km_cons (em_var 1) km_nil))))) (bm_one (sm_ret (em_ifExp (tm_in (room65 hr) em_non (em_var 2)) em_non (em_call G_laid_together hr (by decide) hx (fun _ _ h => h) (km_cons (em_var 1) (km_cons (em_var 2) km_nil))))))))
abbrev s__law_at : Stmt := (topS 39)
theorem sc__law_at : FnScope ["_law_script", "_law_k"] ["_law_script", "_law_k"] (defScope s__law_at) := ⟨rfl, rfl, rfl, by decide +kernel, rfl, by decide +kernel, by decide +kernel⟩
theorem ok__law_at {f : Addr} {fd : FuncData} (T : Txt K mg ca) (F : Fun K "_law_at" "_law_at" s__law_at f fd) (gf : mg "_law_at" = some (.ref f))  : Cal P w K mg base ca "_law_at" 1 [] 2 (m__law_at (ρ := (DR w))) := by
  have sc := sc__law_at
  refine ⟨f, fd, ["_law_script", "_law_k"], fn_mir F sc rfl (by decide) (fun cdv A outer s H E hr tk hx hp => ?_), gf, F.kp, F.binds fun _ _ _ _ _ _ us hl => match us, hl with | [_, _], _ => rfl⟩
  exact (bm_cons (sm_if (tm_lt (em_var 1) (em_callB T.b_len call_len callm_len (am_cons (em_var 0) am_nil))) (bm_one (sm_ret (em_ix (em_var 0) (em_var 1)))) bm_nil) (bm_one (sm_ret em_int)))
abbrev s__law_pot : Stmt := (topS 40)
theorem sc__law_pot : FnScope ["_law_script", "_law_k", "_law_cell", "_law_seed"] ["_law_script", "_law_k"] (defScope s__law_pot) := ⟨rfl, rfl, rfl, by decide +kernel, rfl, by decide +kernel, by decide +kernel⟩
theorem ok__law_pot {f : Addr} {fd : FuncData} (T : Txt K mg ca) (F : Fun K "_law_pot" "_law_pot" s__law_pot f fd) (gf : mg "_law_pot" = some (.ref f)) (G__law_at : Cal P w K mg base ca "_law_at" 1 [] 2 (m__law_at (ρ := (DR w)))) : Cal P w K mg base ca "_law_pot" 2 [] 2 (m__law_pot (ρ := (DR w))) := by
  have sc := sc__law_pot
  refine ⟨f, fd, ["_law_script", "_law_k"], fn_mir F sc rfl (by decide) (fun cdv A outer s H E hr tk hx hp => ?_), gf, F.kp, F.binds fun _ _ _ _ _ _ us hl => match us, hl with | [_, _], _ => rfl⟩
  exact (bm_cons (sm_set (i := 2) (nps rfl) sc.nd (em_frz (em_call G__law_at hr (by decide) hx (fun _ _ h => h) (km_cons (em_var 0) (km_cons (em_var 1) km_nil))))) (bm_cons (sm_set (i := 3) (nps rfl) sc.nd (em_frz (em_mod (em_pow (em_add (em_mul (em_add (em_mod (em_var 2) em_int) em_int) (em_add (em_mul em_int (em_var 1)) em_int)) em_int) em_int) em_int))) (bm_one (sm_ret (em_lst (am_cons (em_callB T.b_max (call_max2 rfl) callm_max2 (am_cons em_int (am_cons (em_sub (em_var 2) (em_pow em_int em_int)) am_nil))) (am_cons (em_var 3) am_nil)))))))
abbrev s__law_take : Stmt := (topS 41)
theorem sc__law_take : FnScope ["_law_pot_here", "_law_many", "_law_digit"] ["_law_pot_here", "_law_many"] (defScope s__law_take) := ⟨rfl, rfl, rfl, by decide +kernel, rfl, by decide +kernel, by decide +kernel⟩
theorem ok__law_take {f : Addr} {fd : FuncData} (T : Txt K mg ca) (F : Fun K "_law_take" "_law_take" s__law_take f fd) (gf : mg "_law_take" = some (.ref f))  : Cal P w K mg base ca "_law_take" 1 [0] 2 (m__law_take (ρ := (DR w))) := by
  have sc := sc__law_take
  refine ⟨f, fd, ["_law_pot_here", "_law_many"], fn_mir F sc rfl (by decide) (fun cdv A outer s H E hr tk hx hp => ?_), gf, F.kp, F.binds fun _ _ _ _ _ _ us hl => match us, hl with | [_, _], _ => rfl⟩
  exact (bm_cons (sm_if (tm_gt (em_ixOwn (i := 0) em_int) em_int) (bm_cons (sm_set (i := 2) (nps rfl) sc.nd (em_frz (em_mod (em_ixOwn (i := 0) em_int) (em_var 1)))) (bm_cons (sm_asg (em_fdiv (em_ixOwn (i := 0) em_int) (em_var 1)) (gm_ix (i := 0) em_int)) (bm_one (sm_ret (em_var 2))))) bm_nil) (bm_cons (sm_asg (em_mod (em_add (em_mul (em_ixOwn (i := 0) em_int) em_int) em_int) em_int) (gm_ix (i := 0) em_int)) (bm_one (sm_ret (em_mod (em_fdiv (em_mod (em_mul (em_ixOwn (i := 0) em_int) (em_ixOwn (i := 0) em_int)) em_int) em_int) (em_var 1))))))
abbrev s__law_done : Stmt := (topS 42)
theorem sc__law_done : FnScope ["_law_deed", "_law_value"] ["_law_deed", "_law_value"] (defScope s__law_done) := ⟨rfl, rfl, rfl, by decide +kernel, rfl, by decide +kernel, by decide +kernel⟩
theorem ok__law_done {f : Addr} {fd : FuncData} (T : Txt K mg ca) (F : Fun K "_law_done" "_law_done" s__law_done f fd) (gf : mg "_law_done" = some (.ref f))  : Cal P w K mg base ca "_law_done" 1 [] 2 (m__law_done (ρ := (DR w))) := by
  have sc := sc__law_done
  refine ⟨f, fd, ["_law_deed", "_law_value"], fn_mir F sc rfl (by decide) (fun cdv A outer s H E hr tk hx hp => ?_), gf, F.kp, F.binds fun _ _ _ _ _ _ us hl => match us, hl with | [_, _], _ => rfl⟩
  exact (bm_cons (sm_set (i := 1) (nps rfl) sc.nd (em_frz (em_add (em_var 1) (em_ix (em_var 0) em_int)))) (bm_cons (sm_if (WM.tm (wm_and (tm_isnot (em_ix (em_var 0) em_int) em_non) (wm_and1 (tm_lt (em_var 1) (em_ix (em_var 0) em_int))))) (bm_one (sm_set (i := 1) (nps rfl) sc.nd (em_frz (em_ix (em_var 0) em_int)))) bm_nil) (bm_cons (sm_if (WM.tm (wm_and (tm_isnot (em_ix (em_var 0) em_int) em_non) (wm_and1 (tm_gt (em_var 1) (em_ix (em_var 0) em_int))))) (bm_one (sm_set (i := 1) (nps rfl) sc.nd (em_frz (em_ix (em_var 0) em_int)))) bm_nil) (bm_one (sm_ret (em_var 1))))))
abbrev s__law_is_order : Stmt := (topS 43)
theorem sc__law_is_order : FnScope ["_law_thing", "_law_many", "_law_k"] ["_law_thing", "_law_many"] (defScope s__law_is_order) := ⟨rfl, rfl, rfl, by decide +kernel, rfl, by decide +kernel, by decide +kernel⟩
theorem ok__law_is_order {f : Addr} {fd : FuncData} (T : Txt K mg ca) (F : Fun K "_law_is_order" "_law_is_order" s__law_is_order f fd) (gf : mg "_law_is_order" = some (.ref f))  : Cal P w K mg base ca "_law_is_order" 1 [] 2 (m__law_is_order (ρ := (DR w))) := by
  have sc := sc__law_is_order
  refine ⟨f, fd, ["_law_thing", "_law_many"], fn_mir F sc rfl (by decide) (fun cdv A outer s H E hr tk hx hp => ?_), gf, F.kp, F.binds fun _ _ _ _ _ _ us hl => match us, hl with | [_, _], _ => rfl⟩
  exact (bm_cons (sm_if (WM.tm (wm_or (tm_not (tm_val (em_isi T.b_isinstance T.b_tuple (em_var 0)))) (wm_or1 (tm_val (em_callB T.b_any (cr_any rfl) callm_any (am_cons (em_lc (own := [("_law_k", 2)]) rfl sc.nd (im_seq (em_var 0)) (blkOk_by (by show blkC ["_law_thing", "_law_many", "_law_k"] (defScope s__law_is_order) _ _ = true; decide +kernel)) (fun _ _ _ _ _ => (gm_name (i := 2) (nps rfl) sc.nd)) (fun _ _ _ _ _ => qm_nil) (fun _ _ _ _ _ => (em_orV (em_notV (em_isi T.b_isinstance T.b_int (em_var 2))) (em_one (em_isi T.b_isinstance T.b_bool (em_var 2))))) (sub2 rfl) (nps2 rfl)) am_nil)))))) (bm_one (sm_ret em_bl)) bm_nil) (bm_one (sm_ret (em_eq hr.units (em_callB T.b_sorted cr_sortedX callm_sorted (am_cons (em_var 0) am_nil)) (em_range_list T.b_list T.b_range (em_var 1))))))
abbrev s__law_keeps : Stmt := (topS 44)
theorem sc__law_keeps : FnScope ["_law_calls", "_law_row", "_law_at_here", "_law_k", "_law_j"] ["_law_calls", "_law_row"] (defScope s__law_keeps) := ⟨rfl, rfl, rfl, by decide +kernel, rfl, by decide +kernel, by decide +kernel⟩
theorem ok__law_keeps {f : Addr} {fd : FuncData} (T : Txt K mg ca) (F : Fun K "_law_keeps" "_law_keeps" s__law_keeps f fd) (gf : mg "_law_keeps" = some (.ref f))  : Cal P w K mg base ca "_law_keeps" 1 [] 2 (m__law_keeps (ρ := (DR w))) := by
  have sc := sc__law_keeps
  refine ⟨f, fd, ["_law_calls", "_law_row"], fn_mir F sc rfl (by decide) (fun cdv A outer s H E hr tk hx hp => ?_), gf, F.kp, F.binds fun _ _ _ _ _ _ us hl => match us, hl with | [_, _], _ => rfl⟩
  exact (bm_cons (sm_for hp rfl (im_enum T.b_enumerate (em_var 1)) (gm_tup rfl (gms_cons (gm_name (i := 2) (nps rfl) sc.nd) (gms_cons (gm_name (i := 3) (nps rfl) sc.nd) gms_nil))) (bm_one (sm_if (tm_val (em_callB T.b_any (cr_any rfl) callm_any (am_cons (em_lc (own := [("_law_j", 4)]) rfl sc.nd (im_seq (em_sl (em_var 1) (om_some (em_add (em_var 2) em_int)) om_none)) (blkOk_by (by show blkC ["_law_calls", "_law_row", "_law_at_here", "_law_k", "_law_j"] (defScope s__law_keeps) _ _ = true; decide +kernel)) (fun _ _ _ _ _ => (gm_name (i := 4) (nps rfl) sc.nd)) (fun _ _ _ _ _ => qm_nil) (fun _ _ _ _ _ => (em_lt (em_ix (em_ix (em_var 0) (em_var 4)) em_int) (em_ix (em_ix (em_var 0) (em_var 3)) em_int))) (sub2 rfl) (nps2 rfl)) am_nil))) (bm_one (sm_ret em_bl)) bm_nil))) (bm_one (sm_ret em_bl)))
abbrev s__law_answers : Stmt := (topS 45)
theorem sc__law_answers : FnScope ["_law_board", "_law_calls", "_law_row", "_law_values", "_law_k", "_law_box"] ["_law_board", "_law_calls", "_law_row"] (defScope s__law_answers) := ⟨rfl, rfl, rfl, by decide +kernel, rfl, by decide +kernel, by decide +kernel⟩
theorem ok__law_answers {f : Addr} {fd : FuncData} (T : Txt K mg ca) (F : Fun K "_law_answers" "_law_answers" s__law_answers f fd) (gf : mg "_law_answers" = some (.ref f)) (G__law_done : Cal P w K mg base ca "_law_done" 1 [] 2 (m__law_done (ρ := (DR w)))) : Cal P w K mg base ca "_law_answers" 2 [] 3 (m__law_answers (ρ := (DR w))) := by
  have sc := sc__law_answers
  refine ⟨f, fd, ["_law_board", "_law_calls", "_law_row"], fn_mir F sc rfl (by decide) (fun cdv A outer s H E hr tk hx hp => ?_), gf, F.kp, F.binds fun _ _ _ _ _ _ us hl => match us, hl with | [_, _, _], _ => rfl⟩
  exact (bm_cons (sm_set (i := 3) (nps rfl) sc.nd (em_callTy T.b_list call_list_of callm_list (am_cons (em_var 0) am_nil))) (bm_cons (sm_for hp rfl (im_seq (em_var 2)) (gm_name (i := 4) (nps rfl) sc.nd) (bm_cons (sm_set (i := 5) (nps rfl) sc.nd (em_frz (em_ix (em_ix (em_var 1) (em_var 4)) em_int))) (bm_cons (sm_if (tm_ne hr.units (em_ixOwn (i := 3) (em_var 5)) (em_ix (em_ix (em_var 1) (em_var 4)) em_int)) (bm_one (sm_ret em_bl)) bm_nil) (bm_one (sm_asg (em_call G__law_done hr (by decide) hx (fun _ _ h => h) (km_cons (em_ix (em_ix (em_var 1) (em_var 4)) em_int) (km_cons (em_ixOwn (i := 3) (em_var 5)) km_nil))) (gm_ix (i := 3) (em_var 5))))))) (bm_one (sm_ret em_bl))))
abbrev s__law_fits : Stmt := (topS 46)
theorem sc__law_fits : FnScope ["_law_board", "_law_calls", "_law_thing"] ["_law_board", "_law_calls", "_law_thing"] (defScope s__law_fits) := ⟨rfl, rfl, rfl, by decide +kernel, rfl, by decide +kernel, by decide +kernel⟩
theorem ok__law_fits {f : Addr} {fd : FuncData} (T : Txt K mg ca) (F : Fun K "_law_fits" "_law_fits" s__law_fits f fd) (gf : mg "_law_fits" = some (.ref f)) (G__law_is_order : Cal P w K mg base ca "_law_is_order" 1 [] 2 (m__law_is_order (ρ := (DR w)))) (G__law_keeps : Cal P w K mg base ca "_law_keeps" 1 [] 2 (m__law_keeps (ρ := (DR w)))) (G__law_answers : Cal P w K mg base ca "_law_answers" 2 [] 3 (m__law_answers (ρ := (DR w)))) : Cal P w K mg base ca "_law_fits" 3 [] 3 (m__law_fits (ρ := (DR w))) := by
  have sc := sc__law_fits
  refine ⟨f, fd, ["_law_board", "_law_calls", "_law_thing"], fn_mir F sc rfl (by decide) (fun cdv A outer s H E hr tk hx hp => ?_), gf, F.kp, F.binds fun _ _ _ _ _ _ us hl => match us, hl with | [_, _, _], _ => rfl⟩
  exact (bm_cons (sm_if (tm_not (tm_val (em_call G__law_is_order hr (by decide) hx (fun _ _ h => h) (km_cons (em_var 2) (km_cons (em_callB T.b_len call_len callm_len (am_cons (em_var 1) am_nil)) km_nil))))) (bm_one (sm_ret em_bl)) bm_nil) (bm_one (sm_ret (em_andV (em_call G__law_keeps hr (by decide) hx (fun _ _ h => h) (km_cons (em_var 1) (km_cons (em_var 2) km_nil))) (em_one (em_call G__law_answers hr (by decide) hx (fun _ _ h => h) (km_cons (em_var 0) (km_cons (em_var 1) (km_cons (em_var 2) km_nil)))))))))
abbrev s__law_call : Stmt := (topS 47)
theorem sc__law_call : FnScope ["_law_pot_here", "_law_boxes", "_law_deeds", "_law_begun", "_law_times", "_law_ask"] ["_law_pot_here", "_law_boxes"] (defScope s__law_call) := ⟨rfl, rfl, rfl, by decide +kernel, rfl, by decide +kernel, by decide +kernel⟩
theorem ok__law_call {f : Addr} {fd : FuncData} (T : Txt K mg ca) (F : Fun K "_law_call" "_law_call" s__law_call f fd) (gf : mg "_law_call" = some (.ref f)) (G__law_take : Cal P w K mg base ca "_law_take" 1 [0] 2 (m__law_take (ρ := (DR w)))) : Cal P w K mg base ca "_law_call" 2 [0] 2 (m__law_call (ρ := (DR w))) := by
  have sc := sc__law_call
  refine ⟨f, fd, ["_law_pot_here", "_law_boxes"], fn_mir F sc rfl (by decide) (fun cdv A outer s H E hr tk hx hp => ?_), gf, F.kp, F.binds fun _ _ _ _ _ _ us hl => match us, hl with | [_, _], _ => rfl⟩
  exact (bm_cons (sm_set (i := 2) (nps rfl) sc.nd (em_frz (em_lst (am_cons (em_tup (am_cons em_int (am_cons em_non (am_cons em_non am_nil)))) (am_cons (em_tup (am_cons em_int (am_cons em_non (am_cons em_non am_nil)))) (am_cons (em_tup (am_cons em_int (am_cons em_int (am_cons em_int am_nil)))) (am_cons (em_tup (am_cons em_int (am_cons em_int (am_cons em_int am_nil)))) am_nil))))))) (bm_cons (sm_set (i := 2) (nps rfl) sc.nd (em_frz (em_add (em_var 2) (em_lst (am_cons (em_tup (am_cons em_int (am_cons em_non (am_cons em_int am_nil)))) (am_cons (em_tup (am_cons (em_neg em_int) (am_cons em_int (am_cons em_non am_nil)))) (am_cons (em_tup (am_cons em_int (am_cons em_int (am_cons em_int am_nil)))) (am_cons (em_tup (am_cons em_int (am_cons em_int (am_cons em_non am_nil)))) am_nil)))))))) (bm_cons (sm_set (i := 3) (nps rfl) sc.nd (em_frz (em_call G__law_take hr (by decide) hx (fun _ _ h => h) (km_io 0 (km_cons em_int km_nil))))) (bm_cons (sm_set (i := 4) (nps rfl) sc.nd (em_frz (em_tup (am_cons (em_var 3) (am_cons (em_add (em_var 3) (em_call G__law_take hr (by decide) hx (fun _ _ h => h) (km_io 0 (km_cons em_int km_nil)))) am_nil))))) (bm_cons (sm_set (i := 5) (nps rfl) sc.nd (em_frz (em_tup (am_cons (em_call G__law_take hr (by decide) hx (fun _ _ h => h) (km_io 0 (km_cons em_int km_nil))) (am_cons (em_call G__law_take hr (by decide) hx (fun _ _ h => h) (km_io 0 (km_cons (em_var 1) km_nil))) (am_cons (em_ix (em_var 2) (em_call G__law_take hr (by decide) hx (fun _ _ h => h) (km_io 0 (km_cons em_int km_nil)))) am_nil)))))) (bm_one (sm_ret (em_add (em_add (em_var 5) (em_var 4)) (em_tup (am_cons (em_call G__law_take hr (by decide) hx (fun _ _ h => h) (km_io 0 (km_cons em_int km_nil))) am_nil))))))))))
abbrev s__law_all : Stmt := (topS 48)
theorem sc__law_all : FnScope ["_law_numbers", "_law_found", "_law_turn", "_law_longer", "_law_row", "_law_k"] ["_law_numbers"] (defScope s__law_all) := ⟨rfl, rfl, rfl, by decide +kernel, rfl, by decide +kernel, by decide +kernel⟩
theorem ok__law_all {f : Addr} {fd : FuncData} (T : Txt K mg ca) (F : Fun K "_law_all" "_law_all" s__law_all f fd) (gf : mg "_law_all" = some (.ref f))  : Cal P w K mg base ca "_law_all" 1 [] 1 (m__law_all (ρ := (DR w))) := by
  have sc := sc__law_all
  refine ⟨f, fd, ["_law_numbers"], fn_mir F sc rfl (by decide) (fun cdv A outer s H E hr tk hx hp => ?_), gf, F.kp, F.binds fun _ _ _ _ _ _ us hl => match us, hl with | [_], _ => rfl⟩
  exact (bm_cons (sm_set (i := 1) (nps rfl) sc.nd (em_frz (em_lst (am_cons (em_tup am_nil) am_nil)))) (bm_cons (sm_for hp rfl (im_range1 T.b_range (em_callB T.b_len call_len callm_len (am_cons (em_var 0) am_nil))) (gm_name (i := 2) (nps rfl) sc.nd) (bm_cons (sm_set (i := 3) (nps rfl) sc.nd (em_lst am_nil)) (bm_cons (sm_for hp rfl (im_seq (em_var 1)) (gm_name (i := 4) (nps rfl) sc.nd) (bm_one (sm_expr (em_own (i := 3) PySem.F.slot_list_extend PySem.F.type_list_extend mt_extend ownm_extend (am_cons (em_lc (own := [("_law_k", 5)]) rfl sc.nd (im_seq (em_var 0)) (blkOk_by (by show blkC ["_law_numbers", "_law_found", "_law_turn", "_law_longer", "_law_row", "_law_k"] (defScope s__law_all) _ _ = true; decide +kernel)) (fun _ _ _ _ _ => (gm_name (i := 5) (nps rfl) sc.nd)) (fun _ _ _ _ _ => (qm_one (tm_notin (room65 hr) (em_var 5) (em_var 4)))) (fun _ _ _ _ _ => (em_add (em_var 4) (em_tup (am_cons (em_var 5) am_nil)))) (sub2 rfl) (nps2 rfl)) am_nil))))) (bm_ghost' (ghost_freeze 3) (bm_one (sm_set (i := 1) (nps rfl) sc.nd (em_frz (em_var 3)))))))) (bm_one (sm_ret (em_var 1)))))
abbrev s__law_right : Stmt := (topS 49)
theorem sc__law_right : FnScope ["_law_board", "_law_calls", "_law_some", "_law_good", "_law_row", "_law_told", "_law_found"] ["_law_board", "_law_calls"] (defScope s__law_right) := ⟨rfl, rfl, rfl, by decide +kernel, rfl, by decide +kernel, by decide +kernel⟩
theorem ok__law_right {f : Addr} {fd : FuncData} (T : Txt K mg ca) (F : Fun K "_law_right" "_law_right" s__law_right f fd) (gf : mg "_law_right" = some (.ref f)) (G_fits : Cal P w K mg base ca "fits" 8 [] 3 (m_fits (ρ := (DR w)))) (G_an_order : Cal P w K mg base ca "an_order" 8 [] 2 (m_an_order (ρ := (DR w)))) (G__law_fits : Cal P w K mg base ca "_law_fits" 3 [] 3 (m__law_fits (ρ := (DR w)))) (G__law_all : Cal P w K mg base ca "_law_all" 1 [] 1 (m__law_all (ρ := (DR w)))) : Cal P w K mg base ca "_law_right" 9 [] 2 (m__law_right (ρ := (DR w))) := by
  have sc := sc__law_right
  refine ⟨f, fd, ["_law_board", "_law_calls"], fn_mir F sc rfl (by decide) (fun cdv A outer s H E hr tk hx hp => ?_), gf, F.kp, F.binds fun _ _ _ _ _ _ us hl => match us, hl with | [_, _], _ => rfl⟩
  exact (bm_cons (sm_set (i := 2) (nps rfl) sc.nd (em_frz (em_call G__law_all hr (by decide) hx (fun _ _ h => h) (km_cons (em_range_list T.b_list T.b_range (em_callB T.b_len call_len callm_len (am_cons (em_var 1) am_nil))) km_nil)))) (bm_cons (sm_setLc (i := 3) (own := [("_law_row", 4)]) true (nps rfl) rfl sc.nd (im_seq (em_var 2)) (blkOk_by (by show blkC ["_law_board", "_law_calls", "_law_some", "_law_good", "_law_row", "_law_told", "_law_found"] (defScope s__law_right) _ _ = true; decide +kernel)) (fun _ _ _ _ _ => (gm_name (i := 4) (nps rfl) sc.nd)) (fun _ _ _ _ _ => (qm_one (tm_val (em_call G__law_fits hr (by decide) passL (fun _ _ h => h.elim) (km_cons (em_var 0) (km_cons (em_var 1) (km_cons (em_var 4) km_nil))))))) (fun _ _ _ _ _ => (em_var 4)) (sub2 rfl) (nps2 rfl)) (bm_cons (sm_for hp rfl (im_seq (em_add (em_st (em_var 2) om_none om_none (om_some em_int)) (em_sl (em_var 3) om_none (om_some em_int)))) (gm_name (i := 4) (nps rfl) sc.nd) (bm_cons (sm_set (i := 5) (nps rfl) sc.nd (em_frz (em_call G_fits hr (by decide) hx (fun _ _ h => h) (km_cons (em_var 0) (km_cons (em_var 1) (km_cons (em_var 4) km_nil)))))) (bm_one (sm_if (WM.tm (wm_or (tm_not (tm_val (em_isi T.b_isinstance T.b_bool (em_var 5)))) (wm_or1 (tm_ne hr.units (em_var 5) (em_in (room65 hr) (em_var 4) (em_var 3)))))) (bm_one (sm_ret em_bl)) bm_nil)))) (bm_cons (sm_set (i := 6) (nps rfl) sc.nd (em_frz (em_call G_an_order hr (by decide) hx (fun _ _ h => h) (km_cons (em_var 0) (km_cons (em_var 1) km_nil))))) (bm_cons (sm_if (tm_eq hr.units (em_var 3) (em_lst am_nil)) (bm_one (sm_ret (em_is (em_var 6) em_non))) bm_nil) (bm_one (sm_ret (em_andV (em_isi T.b_isinstance T.b_tuple (em_var 6)) (em_andV (em_in (room65 hr) (em_var 6) (em_var 3)) (em_one (em_call G__law_fits hr (by decide) hx (fun _ _ h => h) (km_cons (em_var 0) (km_cons (em_var 1) (km_cons (em_var 6) km_nil))))))))))))))
abbrev s_law : Stmt := (topS 50)
theorem sc_law : FnScope ["_law_script", "_law_k", "_law_pot_here", "_law_board", "_law_calls", "_law_box", "_law_turn"] ["_law_script"] (defScope s_law) := ⟨rfl, rfl, rfl, by decide +kernel, rfl, by decide +kernel, by decide +kernel⟩
theorem fn_law {f : Addr} {fd : FuncData} (T : Txt K mg ca) (F : Fun K "law" "law" s_law f fd) (G__law_pot : Cal P w K mg base ca "_law_pot" 2 [] 2 (m__law_pot (ρ := (DR w)))) (G__law_take : Cal P w K mg base ca "_law_take" 1 [0] 2 (m__law_take (ρ := (DR w)))) (G__law_call : Cal P w K mg base ca "_law_call" 2 [0] 2 (m__law_call (ρ := (DR w)))) (G__law_right : Cal P w K mg base ca "_law_right" 9 [] 2 (m__law_right (ρ := (DR w)))) : FnOk P w K mg base (L2.CX P w) 10 f fd ["_law_script"] (spM K ca [] 1 (m_law (ρ := (DR w)))) := by
  have sc := sc_law
  refine fn_mir F sc rfl (by decide) (fun cdv A outer s H E hr tk hx hp => ?_)
  exact (bm_cons (sm_for hp rfl (im_range1 T.b_range (em_callB T.b_max (call_max2 rfl) callm_max2 (am_cons em_int (am_cons (em_callB T.b_min (call_min2 rfl) callm_min2 (am_cons em_int (am_cons (em_callB T.b_len call_len callm_len (am_cons (em_var 0) am_nil)) am_nil))) am_nil)))) (gm_name (i := 1) (nps rfl) sc.nd) (bm_cons (sm_set (i := 2) (nps rfl) sc.nd (em_call G__law_pot hr (by decide) hx (fun _ _ h => h) (km_cons (em_var 0) (km_cons (em_var 1) km_nil)))) (bm_cons (sm_set (i := 3) (nps rfl) sc.nd (em_frz (em_callTy T.b_tuple call_tuple_of callm_tuple (am_cons (em_lc (own := [("_law_box", 5)]) rfl sc.nd (im_range1 T.b_range (em_add em_int (em_call G__law_take hr (by decide) hx (fun _ _ h => h) (km_io 2 (km_cons em_int km_nil))))) (blkOk_by (by show blkC ["_law_script", "_law_k", "_law_pot_here", "_law_board", "_law_calls", "_law_box", "_law_turn"] (defScope s_law) _ _ = true; decide +kernel)) (fun _ _ _ _ _ => (gm_name (i := 5) (nps rfl) sc.nd)) (fun _ _ _ _ _ => qm_nil) (fun _ _ _ _ _ => (em_call G__law_take hr (by decide) passL (fun _ _ h => h.elim) (km_io 2 (km_cons em_int km_nil)))) (sub2 rfl) (nps2 rfl)) am_nil)))) (bm_cons (sm_set (i := 4) (nps rfl) sc.nd (em_frz (em_callTy T.b_tuple call_tuple_of callm_tuple (am_cons (em_lc (own := [("_law_turn", 6)]) rfl sc.nd (im_range1 T.b_range (em_call G__law_take hr (by decide) hx (fun _ _ h => h) (km_io 2 (km_cons em_int km_nil)))) (blkOk_by (by show blkC ["_law_script", "_law_k", "_law_pot_here", "_law_board", "_law_calls", "_law_box", "_law_turn"] (defScope s_law) _ _ = true; decide +kernel)) (fun _ _ _ _ _ => (gm_name (i := 6) (nps rfl) sc.nd)) (fun _ _ _ _ _ => qm_nil) (fun _ _ _ _ _ => (em_call G__law_call hr (by decide) passL (fun _ _ h => h.elim) (km_io 2 (km_cons (em_callB T.b_len call_len callm_len (am_cons (em_var 3) am_nil)) km_nil)))) (sub2 rfl) (nps2 rfl)) am_nil)))) (bm_one (sm_if (tm_not (tm_val (em_call G__law_right hr (by decide) hx (fun _ _ h => h) (km_cons (em_var 3) (km_cons (em_var 4) km_nil))))) (bm_one (sm_ret em_bl)) bm_nil)))))) (bm_one (sm_ret em_bl)))
end
end K74
set_option Elab.async false
set_option linter.all false
set_option maxRecDepth 100000
set_option maxHeartbeats 4000000
namespace K74
open PySem PySem.Spec L2 Mir
variable {ρ : Type} [Rsc ρ] [HasD ρ]

/-! ### what is meant -/
structure Deed where
  add : Int
  low : Option Int
  high : Option Int
deriving DecidableEq
def oD : Option Int → D
  | none => .non
  | some i => .int i
def Deed.D (e : Deed) : D := .tup [.int e.add, oD e.low, oD e.high]
structure Call where
  hand : Int
  box : Int
  deed : Deed
  beg : Int
  fin : Int
  ans : Int
deriving DecidableEq
def Call.D (c : Call) : D := .tup [.int c.hand, .int c.box, c.deed.D, .int c.beg, .int c.fin, .int c.ans]
def Deed.act (e : Deed) (v : Int) : Int :=
  let f := v + e.add
  let f := match e.low with
    | some l => max l f
    | none => f
  match e.high with
    | some h => min h f
    | none => f
def Deed.ok (e : Deed) : Bool := match e.low, e.high with
  | some l, some h => decide (l < h) || (decide (l = h) && decide (e.add = 0))
  | _, _ => true

theorem r_is_whole_int (i : Int) : m_is_whole (ρ := ρ) [.dat (.int i)] = .ok (.dat (.bl true)) [.no] := by
  simp [m_is_whole, mFn_ev]
theorem r_is_whole_non : m_is_whole (ρ := ρ) [.dat .non] = .ok (.dat (.bl false)) [.no] := by
  simp [m_is_whole, mFn_ev]
theorem r_is_end (x : Option Int) : m_is_end (ρ := ρ) [.dat (oD x)] = .ok (.dat (.bl true)) [.no] := by
  cases x <;> simp [m_is_end, mFn_ev, oD, r_is_whole_int]
theorem r_put (e : Deed) (v : Int) : m_put_through (ρ := ρ) [.dat e.D, .dat (.int v)] = .ok (.dat (.int (e.act v))) [.no, .no] := by
  obtain ⟨a, lo, hi⟩ := e
  cases lo <;> cases hi <;> simp [m_put_through, mFn_ev, Deed.D, oD, Deed.act]
theorem r_is_row3 (x y z : D) : m_is_row_of (ρ := ρ) [.dat (.tup [x, y, z]), .dat (.int 3)] = .ok (.dat (.bl true)) [.no, .no] := by
  simp [m_is_row_of, mFn_ev, dEq_sm]
theorem r_is_deed (e : Deed) : m_is_deed (ρ := ρ) [.dat e.D] = .ok (.dat (.bl e.ok)) [.no] := by
  have h1 : ∀ i : Int, m_is_end (ρ := ρ) [.dat (.int i)] = .ok (.dat (.bl true)) [.no] := fun i => r_is_end (some i)
  have h0 : m_is_end (ρ := ρ) [.dat .non] = .ok (.dat (.bl true)) [.no] := r_is_end none
  obtain ⟨a, lo, hi⟩ := e
  cases lo <;> cases hi <;> simp [m_is_deed, mFn_ev, Deed.D, oD, r_is_row3, r_is_whole_int, h0, h1, Deed.ok, dEq_sm]
  rename_i l h
  by_cases k1 : l < h <;> by_cases k2 : l = h <;> simp [k1, k2]
theorem r_are_times (b f : Int) : m_are_times (ρ := ρ) [.dat (.int b), .dat (.int f)] = .ok (.dat (.bl (decide (0 ≤ b) && decide (b ≤ f)))) [.no, .no] := by
  simp [m_are_times, mFn_ev, r_is_whole_int, mChain, iLe]
  by_cases k1 : 0 ≤ b <;> simp [k1]
theorem r_is_ask (bs : List Int) (c : Call) : m_is_ask (ρ := ρ) [.dat (.tup (bs.map .int)), .dat (.tup [.int c.hand, .int c.box, c.deed.D])] = .ok (.dat (.bl (decide (0 ≤ c.hand) && decide (c.hand < 16) && (decide (0 ≤ c.box) && decide (c.box < bs.length) && c.deed.ok)))) [.no, .no] := by
  simp [m_is_ask, mFn_ev, r_is_whole_int, mChain, iLe, iLt, dNe_sm, r_is_deed, k_HANDS]
  by_cases k1 : 0 ≤ c.hand <;> by_cases k2 : c.hand < 16 <;> by_cases k3 : 0 ≤ c.box <;> by_cases k4 : c.box < bs.length <;> simp [k1, k2, k3, k4, r_is_deed]
def Call.ok (n : Nat) (c : Call) : Bool := decide (0 ≤ c.hand) && decide (c.hand < 16) && (decide (0 ≤ c.box) && decide (c.box < n) && c.deed.ok) && (decide (0 ≤ c.beg) && decide (c.beg ≤ c.fin))
theorem cut3 (x y z u v w : D) : cutD [x, y, z, u, v, w] none (some 3) = [x, y, z] := by rfl
theorem r_is_call (bs : List Int) (c : Call) : m_is_call (ρ := ρ) [.dat (.tup (bs.map .int)), .dat c.D] = .ok (.dat (.bl (c.ok bs.length))) [.no, .no] := by
  have h := r_is_ask (ρ := ρ) bs c
  unfold Call.ok
  generalize (decide (0 ≤ c.hand) && decide (c.hand < 16) && (decide (0 ≤ c.box) && decide (c.box < bs.length) && c.deed.ok)) = A at h ⊢
  have h2 := r_are_times (ρ := ρ) c.beg c.fin
  generalize (decide (0 ≤ c.beg) && decide (c.beg ≤ c.fin)) = B at h2 ⊢
  cases A <;> cases B <;> simp [m_is_call, mFn_ev, Call.D, r_is_whole_int, dNe_sm, k_CALL_PARTS, cut3, h, h2]
theorem ints_whole (bs : List Int) (hz : bs.length ≤ sizeLine) : mComp (ρ := ρ) (srcSeq (mVar 0)) (tgN 1) mYes (mCall m_is_whole [.e (mVar 1)]) [1] [.dat (.tup (bs.map .int)), .no] = .ok (.lst ((bs.map fun _ => true).map .bl)) [.dat (.tup (bs.map .int)), .no] := by
  refine (comp_all (enc := D.int) (f := fun _ => .bl true) (env1 := [.dat (.tup (bs.map .int)), .no]) bs (by simp) hz fun x hx => ⟨[.dat (.tup (bs.map .int)), .dat (.int x)], rfl, rfl, by simp [r_is_whole_int]⟩).trans ?_
  rw [List.map_map]; rfl
theorem all_true {α : Type} (bs : List α) : (bs.map fun _ => true).all id = true := by rw [List.all_map]; exact List.all_eq_true.mpr fun _ _ => rfl
theorem r_is_board (bs : List Int) (h0 : 1 ≤ bs.length) (h16 : bs.length ≤ 16) : m_is_board (ρ := ρ) [.dat (.tup (bs.map .int))] = .ok (.dat (.bl true)) [.no] := by
  have hz : bs.length ≤ sizeLine := by rw [sizeLine_eq]; omega
  have h := ints_whole (ρ := ρ) bs hz
  have k1 : (1 : Int) ≤ bs.length := by omega
  have k2 : (bs.length : Int) ≤ 16 := by omega
  simp only [m_is_board, mFn_ev]
  simp [mChain, iLe, k_MOST_BOXES, k1, k2, h, all_true, -List.map_map]
theorem r_want_board (bs : List Int) (h0 : 1 ≤ bs.length) (h16 : bs.length ≤ 16) : m_want_board (ρ := ρ) [.dat (.tup (bs.map .int))] = .ok (.dat .non) [.no] := by
  simp [m_want_board, mFn_ev, r_is_board bs h0 h16]
/-! ### places -/
instance : Inhabited Call := ⟨⟨0, 0, ⟨0, none, none⟩, 0, 0, 0⟩⟩
def at_ (cs : List Call) (k : Nat) : Call := cs.getD k default
theorem at_get {cs : List Call} {k : Nat} (h : k < cs.length) : cs[k]? = some (at_ cs k) := by
  unfold at_
  rw [List.getElem?_eq_getElem h, List.getD_eq_getElem?_getD, List.getElem?_eq_getElem h]; rfl
theorem ix_call {cs : List Call} {k : Nat} (h : k < cs.length) : atI (cs.map Call.D) (k : Int) = some (at_ cs k).D := atI_at (by rw [List.getElem?_map, at_get h]; rfl)
theorem enumD_map {α : Type} (f : α → D) (xs : List α) : enumD (xs.map f) = xs.zipIdx.map fun p => pairD p.2 (f p.1) := by
  unfold enumD
  apply List.ext_getElem?
  intro i
  rw [List.getElem?_mapIdx, List.getElem?_map, List.getElem?_map, List.getElem?_zipIdx]
  cases xs[i]? <;> simp
def numsAt (cs : List Call) (b : Int) : List Nat := (cs.zipIdx.filter fun p => decide (p.1.box = b)).map (·.2)
theorem r_numbers_at (cs : List Call) (b : Int) (hz : cs.length ≤ sizeLine) : m_numbers_at (ρ := ρ) [.dat (.tup (cs.map Call.D)), .dat (.int b)] = .ok (.lst ((numsAt cs b).map nD)) [.no, .no] := by
  have h := comp_some (ρ := ρ) (src := srcEnum (mVar 0)) (g := tgT 2 (tgCons (tgN 2) (tgCons (tgN 3) tgNil))) (tt := mTest (mOp dEq (mOp dIx (mVar 3) (mC (.int 1))) (mVar 1))) (me := mVar 2) (vs := [2, 3])
    (enc := fun p : Call × Nat => pairD p.2 p.1.D) (f := fun p => nD p.2) (pr := fun p => decide (p.1.box = b)) (env := [.dat (.tup (cs.map Call.D)), .dat (.int b), .no, .no]) (env1 := [.dat (.tup (cs.map Call.D)), .dat (.int b), .no, .no]) cs.zipIdx
    (by simp [enumD_map]) (by rw [List.length_zipIdx]; exact hz) fun x hx => ⟨[.dat (.tup (cs.map Call.D)), .dat (.int b), .dat (.int x.2), .dat x.1.D], rfl, rfl, by simp [Call.D, dEq_sm], fun _ => by simp [nD]⟩
  simp only [m_numbers_at, mFn_ev]
  simp only [List.cons_append, List.nil_append, List.replicate, sRet_ev, h, numsAt, List.map_map]
  simp
theorem r_is_ahead (cs : List Call) {k j : Nat} (hk : k < cs.length) (hj : j < cs.length) : m_is_ahead (ρ := ρ) [.dat (.tup (cs.map Call.D)), .dat (nD k), .dat (nD j)] = .ok (.dat (.bl (decide ((at_ cs k).fin < (at_ cs j).beg)))) [.no, .no, .no] := by
  simp [m_is_ahead, mFn_ev, nD, ix_call hk, ix_call hj, Call.D]
/-! ### what keeps its row, what answers so -/
def stpK (cs : List Call) (l : Int) (k : Nat) : Option Int := if (at_ cs k).fin < l then none else some (max l (at_ cs k).beg)
def keepsA (cs : List Call) (row : List Nat) : Bool := (row.foldlM (stpK cs) 0).isSome
def stpA (cs : List Call) (vs : List Int) (k : Nat) : Option (List Int) := if vs.getD (at_ cs k).box.toNat 0 = (at_ cs k).ans then some (vs.set (at_ cs k).box.toNat ((at_ cs k).deed.act (at_ cs k).ans)) else none
def answersA (bs : List Int) (cs : List Call) (row : List Nat) : Bool := (row.foldlM (stpA cs) bs).isSome
theorem r_keeps_ahead (cs : List Call) (row : List Nat) (hr : ∀ k ∈ row, k < cs.length) : m_keeps_ahead (ρ := ρ) [.dat (.tup (cs.map Call.D)), .dat (.tup (row.map nD))] = .ok (.dat (.bl (keepsA cs row))) [.no, .no] := by
  simp [m_keeps_ahead, mFn_ev]
  refine forL_out (fun r => fnEnd [] 2 (r.andThen _) = _) (R := fun (l : Int) env => ∃ z, env = [.dat (.tup (cs.map Call.D)), .dat (.tup (row.map nD)), .dat (.int l), z]) (stp := stpK cs) (out := .dat (.bl false)) row 0 _ ⟨_, rfl⟩ ?_ ?_ ?_
  · rintro k hk l env ⟨z, rfl⟩
    have hk' := hr k hk
    refine ⟨fun s' hs => ?_, fun hs => ?_⟩ <;> unfold stpK at hs
    · split at hs
      · cases hs
      · rename_i hc
        cases hs
        exact ⟨[.dat (.tup (cs.map Call.D)), .dat (.tup (row.map nD)), .dat (.int (max l (at_ cs k).beg)), .dat (nD k)], .inl ⟨_, rfl, by simp [nD, ix_call hk', Call.D, hc]⟩, _, rfl⟩
    · split at hs
      · rename_i hc
        exact ⟨[.dat (.tup (cs.map Call.D)), .dat (.tup (row.map nD)), .dat (.int l), .dat (nD k)], _, rfl, by simp [nD, ix_call hk', Call.D, hc]⟩
      · cases hs
  · rintro s' env' e ⟨z, rfl⟩
    simp [keepsA, e]
  · intro env' e
    simp [keepsA, e]
theorem r_answers_so (bs : List Int) (cs : List Call) (row : List Nat) (hr : ∀ k ∈ row, k < cs.length) (hb : ∀ k ∈ row, 0 ≤ (at_ cs k).box ∧ (at_ cs k).box < bs.length) :
    m_answers_so (ρ := ρ) [.dat (.tup (bs.map .int)), .dat (.tup (cs.map Call.D)), .dat (.tup (row.map nD))] = .ok (.dat (.bl (answersA bs cs row))) [.no, .no, .no] := by
  simp [m_answers_so, mFn_ev]
  refine forL_out (fun r => fnEnd [] 3 (r.andThen _) = _) (R := fun (vs : List Int) env => vs.length = bs.length ∧ ∃ z0 z1 z2 z3 z4 z5 z6, env = [.dat (.tup (bs.map .int)), .dat (.tup (cs.map Call.D)), .dat (.tup (row.map nD)), .lst (vs.map .int), z0, z1, z2, z3, z4, z5, z6])
    (stp := stpA cs) (out := .dat (.bl false)) row bs _ ⟨rfl, _, _, _, _, _, _, _, rfl⟩ ?_ ?_ ?_
  · rintro k hk vs env ⟨hl, z0, z1, z2, z3, z4, z5, z6, rfl⟩
    have hk' := hr k hk
    obtain ⟨b0, b1⟩ := hb k hk
    obtain ⟨b, hbb⟩ : ∃ b : Nat, (at_ cs k).box = (b : Int) := ⟨(at_ cs k).box.toNat, by omega⟩
    have hlt : b < vs.length := by omega
    obtain ⟨v, hget⟩ : ∃ v, vs[b]? = some v := ⟨_, List.getElem?_eq_getElem hlt⟩
    have hgd : vs.getD b 0 = v := by rw [List.getD_eq_getElem?_getD, hget]; rfl
    have hix : atI (vs.map D.int) (b : Int) = some (.int v) := atI_at (by rw [List.getElem?_map, hget]; rfl)
    have hixn : ixN vs.length (b : Int) = some b := ixN_nat hlt
    have hput := r_put (ρ := ρ) (at_ cs k).deed (at_ cs k).ans
    refine ⟨fun s' hs => ?_, fun hs => ?_⟩ <;> unfold stpA at hs
    · split at hs
      · rename_i hc
        cases hs
        rw [hbb] at hc ⊢
        simp only [Int.toNat_natCast, hgd] at hc ⊢
        subst hc
        exact ⟨_, .inl ⟨_, rfl, by simp [nD, ix_call hk', Call.D, hbb, hix, dNe_sm, hput, hixn]; rfl⟩, by rw [List.length_set]; exact hl, _, _, _, _, _, _, _, by rw [List.map_set]⟩
      · cases hs
    · split at hs
      · cases hs
      · rename_i hc
        rw [hbb] at hc
        simp only [Int.toNat_natCast, hgd] at hc
        exact ⟨_, _, rfl, by simp [nD, ix_call hk', Call.D, hbb, hix, hc, dNe_sm, hput, hixn]; rfl⟩
  · rintro s' env' e ⟨hl, z0, z1, z2, z3, z4, z5, z6, rfl⟩
    simp [answersA, e]
  · intro env' e
    simp [answersA, e]
/-! ### calls and orders of them -/
structure WF (bs : List Int) (cs : List Call) : Prop where
  b0 : 1 ≤ bs.length
  b1 : bs.length ≤ 16
  c1 : cs.length ≤ 40
  ok : ∀ c ∈ cs, c.ok bs.length = true
  few : ∀ b, b < bs.length → (numsAt cs (b : Int)).length ≤ 8
variable {bs : List Int} {cs : List Call}
theorem WF.cz (h : WF bs cs) : cs.length ≤ sizeLine := by have := h.c1; rw [sizeLine_eq]; omega
theorem WF.bz (h : WF bs cs) : bs.length ≤ sizeLine := by have := h.b1; rw [sizeLine_eq]; omega
theorem WF.at_ok (h : WF bs cs) {k : Nat} (hk : k < cs.length) : (at_ cs k).ok bs.length = true := h.ok _ (List.mem_of_getElem? (at_get hk))
theorem WF.box (h : WF bs cs) {k : Nat} (hk : k < cs.length) : 0 ≤ (at_ cs k).box ∧ (at_ cs k).box < bs.length := by
  have := h.at_ok hk
  unfold Call.ok at this
  simp only [Bool.and_eq_true, decide_eq_true_eq] at this
  exact ⟨this.1.2.1.1, this.1.2.1.2⟩
theorem comp_calls (h : WF bs cs) : mComp (ρ := ρ) (srcSeq (mVar 1)) (tgN 3) mYes (mCall m_is_call [.e (mVar 0), .e (mVar 3)]) [3] [.dat (.tup (bs.map .int)), .dat (.tup (cs.map Call.D)), .no, .no] = .ok (.lst ((cs.map fun _ => true).map .bl)) [.dat (.tup (bs.map .int)), .dat (.tup (cs.map Call.D)), .no, .no] := by
  refine (comp_all (enc := Call.D) (f := fun _ => .bl true) (env1 := [.dat (.tup (bs.map .int)), .dat (.tup (cs.map Call.D)), .no, .no]) cs (by simp) h.cz fun c hc => ⟨[.dat (.tup (bs.map .int)), .dat (.tup (cs.map Call.D)), .no, .dat c.D], rfl, rfl, by simp [r_is_call, h.ok c hc]⟩).trans ?_
  rw [List.map_map]; rfl
theorem comp_boxes (h : WF bs cs) : mComp (ρ := ρ) (srcRng1 (mBlt dLen (mArgs [mVar 0]))) (tgN 2) mYes (mOp dLe (mBlt dLen (mArgs [mCall m_numbers_at [.e (mVar 1), .e (mVar 2)]])) (mC k_MOST_AT_A_BOX)) [2] [.dat (.tup (bs.map .int)), .dat (.tup (cs.map Call.D)), .no, .no] = .ok (.lst (((List.range bs.length).map fun _ => true).map .bl)) [.dat (.tup (bs.map .int)), .dat (.tup (cs.map Call.D)), .no, .no] := by
  have hb := h.b1
  refine (comp_all (enc := nD) (f := fun _ => .bl true) (env1 := [.dat (.tup (bs.map .int)), .dat (.tup (cs.map Call.D)), .no, .no]) (List.range bs.length) (rng1_ev (by simp) (by omega)) (by rw [List.length_range]; exact h.bz)
    fun i hi => ⟨[.dat (.tup (bs.map .int)), .dat (.tup (cs.map Call.D)), .dat (nD i), .no], rfl, rfl, ?_⟩).trans ?_
  · have := h.few i (List.mem_range.mp hi)
    simp [nD, r_numbers_at _ _ h.cz, k_MOST_AT_A_BOX]
    omega
  · rw [List.map_map]; rfl
theorem r_are_calls (h : WF bs cs) : m_are_calls (ρ := ρ) [.dat (.tup (bs.map .int)), .dat (.tup (cs.map Call.D))] = .ok (.dat (.bl true)) [.no, .no] := by
  have hc : ¬ (40 : Int) < cs.length := by have := h.c1; omega
  simp only [m_are_calls, mFn_ev]
  simp [r_want_board bs h.b0 h.b1, k_MOST_CALLS, hc, comp_calls h, comp_boxes h, all_true, -List.map_map, -List.map_const_fun]
theorem r_want_calls (h : WF bs cs) : m_want_calls (ρ := ρ) [.dat (.tup (bs.map .int)), .dat (.tup (cs.map Call.D))] = .ok (.dat .non) [.no, .no] := by
  simp [m_want_calls, mFn_ev, r_are_calls h]
end K74
set_option Elab.async false
set_option linter.all false
set_option maxRecDepth 100000
set_option maxHeartbeats 4000000
namespace K74
open PySem PySem.Spec L2 Mir
variable {ρ : Type} [Rsc ρ] [HasD ρ] {bs : List Int} {cs : List Call}

/-! ### lists without doubles -/
theorem perm_of_subset {α : Type} [DecidableEq α] : ∀ {xs ys : List α}, xs.Nodup → (∀ x ∈ xs, x ∈ ys) → xs.length = ys.length → xs.Perm ys
  | [], ys, _, _, hl => by
    have : ys = [] := List.length_eq_zero_iff.mp hl.symm
    rw [this]
  | x :: xs, ys, hn, hs, hl => by
    have hx := hs x List.mem_cons_self
    have hp := List.perm_cons_erase hx
    obtain ⟨hx2, hn2⟩ := List.nodup_cons.mp hn
    refine (List.Perm.cons x (perm_of_subset hn2 (fun y hy => ?_) ?_)).trans hp.symm
    · exact (List.mem_erase_of_ne fun e => hx2 (by rw [← e]; exact hy)).mpr (hs y (List.mem_cons_of_mem _ hy))
    · have := hp.length_eq
      rw [List.length_cons] at this hl
      omega
theorem length_le_of_subset {α : Type} [DecidableEq α] : ∀ {xs ys : List α}, xs.Nodup → (∀ x ∈ xs, x ∈ ys) → xs.length ≤ ys.length
  | [], ys, _, _ => Nat.zero_le _
  | x :: xs, ys, hn, hs => by
    have hx := hs x List.mem_cons_self
    have hp := List.perm_cons_erase hx
    obtain ⟨hx2, hn2⟩ := List.nodup_cons.mp hn
    have := length_le_of_subset (ys := ys.erase x) hn2 fun y hy => (List.mem_erase_of_ne fun e => hx2 (by rw [← e]; exact hy)).mpr (hs y (List.mem_cons_of_mem _ hy))
    have h2 := hp.length_eq
    rw [List.length_cons] at h2 ⊢
    omega

/-! ### sorted numbers -/
theorem asInts_nD : ∀ row : List Nat, asInts (row.map nD) = some (row.map fun k : Nat => (k : Int))
  | [] => rfl
  | k :: r => by show (asInts (r.map nD)).map ((k : Int) :: ·) = _; rw [asInts_nD r]; rfl
theorem dSorted_row (row : List Nat) : dSorted (ρ := ρ) [.tup (row.map nD)] = some (.lst ((sortI (row.map fun k : Nat => (k : Int))).map .int)) := by
  show ((some (row.map nD)).bind asInts).map _ = _
  rw [Option.bind_some, asInts_nD]; rfl
theorem sort_perm {row : List Nat} {n : Nat} (h : row.Perm (List.range n)) : sortI (row.map fun k : Nat => (k : Int)) = (List.range n).map fun k : Nat => (k : Int) := by
  refine (sortI_uniq (h.symm.map _) ?_).symm
  rw [List.pairwise_map]
  exact (List.pairwise_lt_range (n := n)).imp fun h => by omega
theorem sorted_nD (n : Nat) : ((List.range n).map fun k : Nat => (k : Int)).map D.int = (List.range n).map nD := by rw [List.map_map]; rfl
theorem eqDs_nD (xs ys : List Nat) : eqDs (xs.map nD) (ys.map nD) = decide (xs = ys) := eqDs_map eqD_nD xs ys
theorem sm_row (n : Nat) (row : List Nat) : sm (n + 1) (.tup (row.map nD)) = true := all_sm (sm_nD n) row
theorem sm_rowL (n : Nat) (row : List Nat) : sm (n + 1) (.lst (row.map nD)) = true := all_sm (sm_nD n) row
theorem rangeList {m : ME ρ} {env env' : Env ρ} {n : Nat} (h : toD m env = .ok (.int (n : Int)) env') (hn : n ≤ 16777216) : mRangeList m env = .ok (.lst ((List.range n).map nD)) env' := by
  rw [mRangeList_ev, h]
  simp only [Rs.bind_ok, intOf_int]
  rw [if_pos ⟨Int.natCast_nonneg n, by rw [Int.toNat_natCast]; exact hn⟩, Int.toNat_natCast, rangeD0]
theorem comp_whole (row : List Nat) (hz : row.length ≤ sizeLine) (y : SV ρ) : mComp (srcSeq (mVar 0)) (tgN 2) mYes (mCall m_is_whole [.e (mVar 2)]) [2] [.dat (.tup (row.map nD)), y, .no] = .ok (.lst ((row.map fun _ => true).map .bl)) [.dat (.tup (row.map nD)), y, .no] := by
  refine (comp_all (enc := nD) (f := fun _ => .bl true) (env1 := [.dat (.tup (row.map nD)), y, .no]) row (by simp) hz fun k hk => ⟨[.dat (.tup (row.map nD)), y, .dat (nD k)], rfl, rfl, by simp [nD, r_is_whole_int]⟩).trans ?_
  rw [List.map_map]; rfl
theorem r_are_numbers {row : List Nat} {n : Nat} (h : row.Perm (List.range n)) (hz : n ≤ sizeLine) : m_are_numbers_of (ρ := ρ) [.dat (.tup (row.map nD)), .dat (.lst ((List.range n).map nD))] = .ok (.dat (.bl true)) [.no, .no] := by
  have hl : row.length ≤ sizeLine := by rw [h.length_eq, List.length_range]; exact hz
  simp only [m_are_numbers_of, mFn_ev]
  simp [comp_whole row hl, all_true, dSorted_row, sort_perm h, sorted_nD, dEq_sm, sm_rowL, eqDs_nD, -List.map_map, -List.map_const_fun]
theorem r_fits (h : WF bs cs) {row : List Nat} (hp : row.Perm (List.range cs.length)) : m_fits (ρ := ρ) [.dat (.tup (bs.map .int)), .dat (.tup (cs.map Call.D)), .dat (.tup (row.map nD))] = .ok (.dat (.bl (keepsA cs row && answersA bs cs row))) [.no, .no, .no] := by
  have hr : ∀ k ∈ row, k < cs.length := fun k hk => List.mem_range.mp (hp.mem_iff.mp hk)
  have hb : ∀ k ∈ row, 0 ≤ (at_ cs k).box ∧ (at_ cs k).box < bs.length := fun k hk => h.box (hr k hk)
  have e1 : ∀ y z : SV ρ, mRangeList (mBlt dLen (mArgs [mVar 1])) [y, .dat (.tup (cs.map Call.D)), z] = .ok (.lst ((List.range cs.length).map nD)) [y, .dat (.tup (cs.map Call.D)), z] := fun y z => rangeList (by simp) (by have := h.c1; omega)
  simp only [m_fits, mFn_ev]
  simp [r_want_calls h, e1, r_are_numbers hp h.cz, r_keeps_ahead cs row hr, r_answers_so bs cs row hr hb, -mRangeList_ev]
  cases keepsA cs row <;> simp
end K74
set_option Elab.async false
set_option linter.all false
set_option maxRecDepth 100000
set_option maxHeartbeats 4000000
namespace K74
open PySem PySem.Spec L2 Mir
variable {ρ : Type} [Rsc ρ] [HasD ρ] {bs : List Int} {cs : List Call}

/-! ### the law's own look -/
theorem r_done (e : Deed) (v : Int) : m__law_done (ρ := ρ) [.dat e.D, .dat (.int v)] = .ok (.dat (.int (let w := v + e.add; let w := match e.low with | some l => if w < l then l else w | none => w; match e.high with | some h => if h < w then h else w | none => w))) [.no, .no] := by
  obtain ⟨a, lo, hi⟩ := e
  cases lo <;> cases hi <;> simp [m__law_done, mFn_ev, Deed.D, oD]
  · rename_i h
    by_cases k1 : h < v + a <;> simp [k1]
  · rename_i l
    by_cases k1 : v + a < l <;> simp [k1]
  · rename_i l h
    by_cases k1 : v + a < l
    · by_cases k2 : h < l <;> simp [k1, k2]
    · by_cases k2 : h < v + a <;> simp [k1, k2]
theorem r_done_act (e : Deed) (v : Int) : m__law_done (ρ := ρ) [.dat e.D, .dat (.int v)] = .ok (.dat (.int (e.act v))) [.no, .no] := by
  rw [r_done]
  obtain ⟨a, lo, hi⟩ := e
  cases lo <;> cases hi <;> simp only [Deed.act, Int.max_def, Int.min_def] <;> congr 3 <;> (repeat' split) <;> omega
theorem comp_odd (row : List Nat) (hz : row.length ≤ sizeLine) (y : SV ρ) : mComp (srcSeq (mVar 0)) (tgN 2) mYes (mOrV (mNotV (mUn (dIsi "int") (mVar 2))) (mUn (dIsi "bool") (mVar 2))) [2] [.dat (.tup (row.map nD)), y, .no] = .ok (.lst ((row.map fun _ => false).map .bl)) [.dat (.tup (row.map nD)), y, .no] := by
  refine (comp_all (enc := nD) (f := fun _ => .bl false) (env1 := [.dat (.tup (row.map nD)), y, .no]) row (by simp) hz fun k hk => ⟨[.dat (.tup (row.map nD)), y, .dat (nD k)], rfl, rfl, by simp [nD]⟩).trans ?_
  rw [List.map_map]; rfl
theorem any_false {α : Type} (bs : List α) : (bs.map fun _ => false).any id = false := by rw [List.any_map]; exact List.any_eq_false.mpr fun _ _ => by simp
theorem r_law_is_order {row : List Nat} {n : Nat} (h : row.Perm (List.range n)) (hz : n ≤ 16777216) : m__law_is_order (ρ := ρ) [.dat (.tup (row.map nD)), .dat (nD n)] = .ok (.dat (.bl true)) [.no, .no] := by
  have hl : row.length ≤ sizeLine := by rw [h.length_eq, List.length_range, sizeLine_eq]; exact hz
  have e1 : ∀ y z : SV ρ, mRangeList (mVar 1) [y, .dat (nD n), z] = .ok (.lst ((List.range n).map nD)) [y, .dat (nD n), z] := fun y z => rangeList (by simp [nD]) hz
  simp only [m__law_is_order, mFn_ev]
  simp [comp_odd row hl, any_false, dSorted_row, sort_perm h, sorted_nD, dEq_sm, sm_rowL, eqDs_nD, e1, -List.map_map, -List.map_const_fun, -mRangeList_ev]
theorem cut_from {α : Type} (xs : List α) (k : Nat) : cutD xs (some ((k : Int) + 1)) none = xs.drop (k + 1) := by
  have e : ((k : Int) + 1) = ((k + 1 : Nat) : Int) := by omega
  unfold cutD
  rw [e, HT.sIx_none, HT.sIx_nat]
  by_cases h : k + 1 ≤ xs.length
  · rw [Nat.min_eq_left h]
    exact List.take_of_length_le (by rw [List.length_drop]; omega)
  · rw [Nat.min_eq_right (by omega), List.drop_eq_nil_of_le (Nat.le_refl _), List.drop_eq_nil_of_le (show xs.length ≤ k + 1 by omega)]
    simp
theorem comp_later (cs : List Call) (row : List Nat) (hr : ∀ k ∈ row, k < cs.length) (hz : row.length ≤ sizeLine) (i k : Nat) (hk : k < cs.length) (y : SV ρ) :
    mComp (srcSeq (mSl (mVar 1) (mPart (mOp dAdd (mVar 2) (mC (.int 1)))) mNoPart)) (tgN 4) mYes (mOp dLt (mOp dIx (mOp dIx (mVar 0) (mVar 4)) (mC (.int 4))) (mOp dIx (mOp dIx (mVar 0) (mVar 3)) (mC (.int 3)))) [4]
      [.dat (.tup (cs.map Call.D)), .dat (.tup (row.map nD)), .dat (.int (i : Int)), .dat (nD k), y] = .ok (.lst (((row.drop (i + 1)).map fun j => decide ((at_ cs j).fin < (at_ cs k).beg)).map .bl)) [.dat (.tup (cs.map Call.D)), .dat (.tup (row.map nD)), .dat (.int (i : Int)), .dat (nD k), (match y with | .dat d => .dat d | _ => .no)] := by
  refine (comp_all (enc := nD) (f := fun j => .bl (decide ((at_ cs j).fin < (at_ cs k).beg))) (env1 := [.dat (.tup (cs.map Call.D)), .dat (.tup (row.map nD)), .dat (.int (i : Int)), .dat (nD k), y]) (row.drop (i + 1)) (by simp [cut_from]) (by rw [List.length_drop]; omega)
    fun j hj => ⟨[.dat (.tup (cs.map Call.D)), .dat (.tup (row.map nD)), .dat (.int (i : Int)), .dat (nD k), .dat (nD j)], rfl, rfl, by simp [nD, ix_call hk, ix_call (hr j (List.mem_of_mem_drop hj)), Call.D]⟩).trans ?_
  rw [List.map_map]
  cases y <;> rfl
theorem foldlM_unit {α : Type} (p : α → Bool) : ∀ xs : List α, xs.foldlM (fun (_ : Unit) x => if p x = true then none else some ()) () = if xs.any p = true then none else some ()
  | [] => rfl
  | x :: xs => by
    rw [List.foldlM_cons, List.any_cons]
    by_cases h : p x = true
    · rw [if_pos h, h]; rfl
    · rw [if_neg h]
      have hf : p x = false := by simpa using h
      rw [hf, Bool.false_or]
      exact foldlM_unit p xs
/-- none stands behind one that it is ahead of -/
def Keeps (cs : List Call) (row : List Nat) : Prop := row.Pairwise fun k j => ¬ (at_ cs j).fin < (at_ cs k).beg
instance (cs : List Call) (row : List Nat) : Decidable (Keeps cs row) := by unfold Keeps; infer_instance
theorem keeps_any (cs : List Call) (row : List Nat) : (row.zipIdx.any fun p => (row.drop (p.2 + 1)).any fun j => decide ((at_ cs j).fin < (at_ cs p.1).beg)) = !decide (Keeps cs row) := by
  rw [Bool.eq_iff_iff, List.any_eq_true]
  have e : ((!decide (Keeps cs row)) = true) ↔ ¬ Keeps cs row := by simp
  rw [e]
  unfold Keeps
  rw [List.pairwise_iff_getElem]
  constructor
  · rintro ⟨⟨k, i⟩, h1, h2⟩ hk
    rw [List.mem_zipIdx_iff_getElem?] at h1
    obtain ⟨j, h3, h4⟩ := List.any_eq_true.mp h2
    obtain ⟨m, hm, e⟩ := List.mem_iff_getElem.mp h3
    rw [List.length_drop] at hm
    rw [List.getElem_drop] at e
    have hi : i < row.length := (List.getElem?_eq_some_iff.mp h1).1
    have hki : row[i] = k := (List.getElem?_eq_some_iff.mp h1).2
    refine hk i (i + 1 + m) hi (by omega) (by omega) ?_
    rw [hki, e]
    simpa using h4
  · intro hk
    have : ∃ (i j : Nat) (hi : i < row.length) (hj : j < row.length), i < j ∧ (at_ cs row[j]).fin < (at_ cs row[i]).beg := by
      apply Classical.byContradiction
      intro hn
      exact hk fun i j hi hj hij hlt => hn ⟨i, j, hi, hj, hij, hlt⟩
    obtain ⟨i, j, hi, hj, hij, hlt⟩ := this
    refine ⟨(row[i], i), List.mem_zipIdx_iff_getElem?.mpr (List.getElem?_eq_getElem hi), List.any_eq_true.mpr ⟨row[j], ?_, by simpa using hlt⟩⟩
    refine List.mem_iff_getElem.mpr ⟨j - (i + 1), by rw [List.length_drop]; omega, ?_⟩
    rw [List.getElem_drop]
    congr 1
    omega
theorem r_law_keeps (cs : List Call) (row : List Nat) (hr : ∀ k ∈ row, k < cs.length) (hz : row.length ≤ sizeLine) : m__law_keeps (ρ := ρ) [.dat (.tup (cs.map Call.D)), .dat (.tup (row.map nD))] = .ok (.dat (.bl (decide (Keeps cs row)))) [.no, .no] := by
  simp [m__law_keeps, mFn_ev, enumD_map]
  have hf := foldlM_unit (fun p : Nat × Nat => (row.drop (p.2 + 1)).any fun j => decide ((at_ cs j).fin < (at_ cs p.1).beg)) row.zipIdx
  rw [keeps_any] at hf
  refine forL_out (fun r => fnEnd [] 2 (r.andThen _) = _) (enc := fun p : Nat × Nat => pairD p.2 (nD p.1)) (R := fun (_ : Unit) env => ∃ a b c, env = [.dat (.tup (cs.map Call.D)), .dat (.tup (row.map nD)), a, b, c])
    (stp := fun (_ : Unit) p => if ((row.drop (p.2 + 1)).any fun j => decide ((at_ cs j).fin < (at_ cs p.1).beg)) = true then none else some ()) (out := .dat (.bl false)) row.zipIdx () _ ⟨_, _, _, rfl⟩ ?_ ?_ ?_
  · rintro ⟨k, i⟩ hp _ env ⟨a, b, c, rfl⟩
    have hk : k ∈ row := by
      rw [List.mem_zipIdx_iff_getElem?] at hp
      exact List.mem_of_getElem? hp
    have hc := comp_later (ρ := ρ) cs row hr hz i k (hr k hk) c
    refine ⟨fun s' hs => ?_, fun hs => ?_⟩
    · split at hs
      · cases hs
      · rename_i hany
        have hf : ((row.drop (i + 1)).map fun j => decide ((at_ cs j).fin < (at_ cs k).beg)).any id = false := by rw [List.any_map]; simpa using hany
        generalize ((row.drop (i + 1)).map fun j => decide ((at_ cs j).fin < (at_ cs k).beg)) = B at hc hf
        exact ⟨_, .inl ⟨_, rfl, by simp [hc, hf]; exact ⟨rfl, rfl, rfl⟩⟩, _, _, _, rfl⟩
    · split at hs
      · rename_i hany
        have hf : ((row.drop (i + 1)).map fun j => decide ((at_ cs j).fin < (at_ cs k).beg)).any id = true := by rw [List.any_map]; simpa using hany
        generalize ((row.drop (i + 1)).map fun j => decide ((at_ cs j).fin < (at_ cs k).beg)) = B at hc hf
        exact ⟨_, _, rfl, by simp [hc, hf]; rfl⟩
      · cases hs
  · rintro s' env' e ⟨a, b, c, rfl⟩
    rw [hf] at e
    split at e
    · cases e
    · rename_i h
      simp at h
      simp [h]
  · intro env' e
    rw [hf] at e
    split at e
    · rename_i h
      simp at h
      simp [h]
    · cases e
theorem r_law_answers (bs : List Int) (cs : List Call) (row : List Nat) (hr : ∀ k ∈ row, k < cs.length) (hb : ∀ k ∈ row, 0 ≤ (at_ cs k).box ∧ (at_ cs k).box < bs.length) :
    m__law_answers (ρ := ρ) [.dat (.tup (bs.map .int)), .dat (.tup (cs.map Call.D)), .dat (.tup (row.map nD))] = .ok (.dat (.bl (answersA bs cs row))) [.no, .no, .no] := by
  simp [m__law_answers, mFn_ev]
  refine forL_out (fun r => fnEnd [] 3 (r.andThen _) = _) (R := fun (vs : List Int) env => vs.length = bs.length ∧ ∃ z0 z1, env = [.dat (.tup (bs.map .int)), .dat (.tup (cs.map Call.D)), .dat (.tup (row.map nD)), .lst (vs.map .int), z0, z1])
    (stp := stpA cs) (out := .dat (.bl false)) row bs _ ⟨rfl, _, _, rfl⟩ ?_ ?_ ?_
  · rintro k hk vs env ⟨hl, z0, z1, rfl⟩
    have hk' := hr k hk
    obtain ⟨b0, b1⟩ := hb k hk
    obtain ⟨b, hbb⟩ : ∃ b : Nat, (at_ cs k).box = (b : Int) := ⟨(at_ cs k).box.toNat, by omega⟩
    have hlt : b < vs.length := by omega
    obtain ⟨v, hget⟩ : ∃ v, vs[b]? = some v := ⟨_, List.getElem?_eq_getElem hlt⟩
    have hgd : vs.getD b 0 = v := by rw [List.getD_eq_getElem?_getD, hget]; rfl
    have hix : atI (vs.map D.int) (b : Int) = some (.int v) := atI_at (by rw [List.getElem?_map, hget]; rfl)
    have hixn : ixN vs.length (b : Int) = some b := ixN_nat hlt
    have hput := fun v => r_done_act (ρ := ρ) (at_ cs k).deed v
    refine ⟨fun s' hs => ?_, fun hs => ?_⟩ <;> unfold stpA at hs
    · split at hs
      · rename_i hc
        cases hs
        rw [hbb] at hc ⊢
        simp only [Int.toNat_natCast, hgd] at hc ⊢
        subst hc
        exact ⟨_, .inl ⟨_, rfl, by simp [nD, ix_call hk', Call.D, hbb, hix, dNe_sm, hput, hixn]; rfl⟩, by rw [List.length_set]; exact hl, _, _, by rw [List.map_set]⟩
      · cases hs
    · split at hs
      · cases hs
      · rename_i hc
        rw [hbb] at hc
        simp only [Int.toNat_natCast, hgd] at hc
        exact ⟨_, _, rfl, by simp [nD, ix_call hk', Call.D, hbb, hix, hc, dNe_sm, hput, hixn]; rfl⟩
  · rintro s' env' e ⟨hl, z0, z1, rfl⟩
    simp [answersA, e]
  · intro env' e
    simp [answersA, e]
/-- the law's own look at a row of all numbers -/
def lawFits (bs : List Int) (cs : List Call) (row : List Nat) : Bool := decide (Keeps cs row) && answersA bs cs row
theorem r_law_fits (h : WF bs cs) {row : List Nat} (hp : row.Perm (List.range cs.length)) : m__law_fits (ρ := ρ) [.dat (.tup (bs.map .int)), .dat (.tup (cs.map Call.D)), .dat (.tup (row.map nD))] = .ok (.dat (.bl (lawFits bs cs row))) [.no, .no, .no] := by
  have hr : ∀ k ∈ row, k < cs.length := fun k hk => List.mem_range.mp (hp.mem_iff.mp hk)
  have hb : ∀ k ∈ row, 0 ≤ (at_ cs k).box ∧ (at_ cs k).box < bs.length := fun k hk => h.box (hr k hk)
  have hc := h.c1
  have ho : m__law_is_order (ρ := ρ) [.dat (.tup (row.map nD)), .dat (.int (cs.length : Int))] = .ok (.dat (.bl true)) [.no, .no] := r_law_is_order (ρ := ρ) hp (by omega)
  have hz : row.length ≤ sizeLine := by rw [hp.length_eq, List.length_range]; exact h.cz
  simp only [m__law_fits, mFn_ev, lawFits]
  simp [ho, r_law_keeps cs row hr hz, r_law_answers bs cs row hr hb]
  by_cases hk : Keeps cs row <;> simp [hk]
theorem keepsA_gen (cs : List Call) : ∀ (row : List Nat) (l : Int), ((row.foldlM (stpK cs) l).isSome = true) ↔ (∀ k ∈ row, ¬ (at_ cs k).fin < l) ∧ Keeps cs row
  | [], l => by
    refine ⟨fun _ => ⟨fun k h => (by cases h), List.Pairwise.nil⟩, fun _ => rfl⟩
  | k :: row, l => by
    rw [List.foldlM_cons]
    unfold stpK
    by_cases h : (at_ cs k).fin < l
    · rw [if_pos h]
      constructor
      · intro e; cases e
      · intro e; exact absurd h (e.1 k List.mem_cons_self)
    · rw [if_neg h]
      show (row.foldlM (stpK cs) (max l (at_ cs k).beg)).isSome = true ↔ _
      rw [keepsA_gen cs row]
      unfold Keeps
      rw [List.pairwise_cons]
      constructor
      · rintro ⟨h1, h2⟩
        refine ⟨fun j hj => ?_, fun j hj => ?_, h2⟩
        · rcases List.mem_cons.mp hj with rfl | hj
          · exact h
          · have := h1 j hj; omega
        · have := h1 j hj; omega
      · rintro ⟨h1, h2, h3⟩
        refine ⟨fun j hj => ?_, h3⟩
        have a := h1 j (List.mem_cons_of_mem _ hj)
        have b := h2 j hj
        omega
/-- both looks are one -/
theorem keepsA_eq (h : WF bs cs) {row : List Nat} (hr : ∀ k ∈ row, k < cs.length) : keepsA cs row = decide (Keeps cs row) := by
  rw [Bool.eq_iff_iff, decide_eq_true_eq]
  unfold keepsA
  rw [keepsA_gen]
  refine ⟨fun e => e.2, fun e => ⟨fun k hk => ?_, e⟩⟩
  have := h.at_ok (hr k hk)
  unfold Call.ok at this
  simp only [Bool.and_eq_true, decide_eq_true_eq] at this
  omega
theorem r_fits' (h : WF bs cs) {row : List Nat} (hp : row.Perm (List.range cs.length)) : m_fits (ρ := ρ) [.dat (.tup (bs.map .int)), .dat (.tup (cs.map Call.D)), .dat (.tup (row.map nD))] = .ok (.dat (.bl (lawFits bs cs row))) [.no, .no, .no] := by
  rw [r_fits h hp, keepsA_eq h fun k hk => List.mem_range.mp (hp.mem_iff.mp hk)]; rfl
end K74
set_option Elab.async false
set_option linter.all false
set_option maxRecDepth 100000
set_option maxHeartbeats 4000000
namespace K74
open PySem PySem.Spec L2 Mir
variable {ρ : Type} [Rsc ρ] [HasD ρ] {bs : List Int} {cs : List Call}

/-! ### draws -/
theorem log_small {i : Int} {k : Nat} (h : i.natAbs < 2 ^ k) : i.natAbs.log2 ≤ k := by
  by_cases h0 : i.natAbs = 0
  · rw [h0]; simp
  · exact Nat.le_of_lt ((Nat.log2_lt h0).mpr h)
theorem mul_ok {i j : Int} (hi : i.natAbs < 2 ^ 64) (hj : j.natAbs < 2 ^ 64) : dMul (ρ := ρ) (.int i) (.int j) = some (.dat (.int (i * j))) := by
  rw [dMul_int, if_pos]
  have h1 := log_small hi
  have h2 := log_small hj
  omega
theorem mod_ok {i j : Int} (hj : 0 < j) : dMod (ρ := ρ) (.int i) (.int j) = some (.dat (.int (i % j))) := by
  rw [dMod_int, if_pos hj]; rfl
theorem div_ok {i j : Int} (h0 : 0 < j) (hj : j.natAbs < 2 ^ 64) : dFdiv (ρ := ρ) (.int i) (.int j) = some (.dat (.int (i / j))) := by
  have h2 := log_small hj
  rw [dFdiv_int, if_pos ⟨h0, by omega⟩]; rfl
theorem pow_ok {i : Int} {n : Nat} (hi : i.natAbs < 2 ^ 64) (hn : n ≤ 1000000) : dPow (ρ := ρ) (.int i) (.int (n : Int)) = some (.dat (.int (i ^ n))) := by
  rw [dPow_int, if_pos ⟨Int.natCast_nonneg n, by omega, hi⟩, Int.toNat_natCast]; rfl
structure PotOk (a b : Int) : Prop where
  a0 : 0 ≤ a
  b0 : 0 ≤ b
  b1 : b < 2147483647
theorem r_take {a b n : Int} (h : PotOk a b) (hn : 1 ≤ n) (hn2 : n ≤ 1000000) : ∃ v a' b', m__law_take (ρ := ρ) [.lst [.int a, .int b], .dat (.int n)] = .ok (.dat (.int v)) [.lst [.int a', .int b'], .no] ∧ 0 ≤ v ∧ v < n ∧ PotOk a' b' := by
  obtain ⟨a0, b0, b1⟩ := h
  have hnb : n.natAbs < 2 ^ 64 := by omega
  have hk : ∀ x y z : SV ρ, keep [0] 2 [x, y, z] = [x, .no] := fun _ _ _ => rfl
  have ix0 : ixN 2 0 = some 0 := rfl
  have ix1 : ixN 2 1 = some 1 := rfl
  by_cases ha : 0 < a
  · refine ⟨a % n, a / n, b, ?_, Int.emod_nonneg _ (by omega), Int.emod_lt_of_pos _ (by omega), Int.ediv_nonneg a0 (by omega), b0, b1⟩
    simp [m__law_take, mFn_ev, ha, mod_ok (show 0 < n by omega), div_ok (show 0 < n by omega) hnb, ix0, hk, -dMod_int, -dFdiv_int]
  · obtain ⟨B, hB⟩ : ∃ B, (b * 48271 + 12345) % 2147483647 = B := ⟨_, rfl⟩
    have hb' : B < 2147483647 := by rw [← hB]; exact Int.emod_lt_of_pos _ (by decide)
    have hb0 : 0 ≤ B := by rw [← hB]; exact Int.emod_nonneg _ (by decide)
    refine ⟨_, a, B, ?_, Int.emod_nonneg (B * B % 2147483629 / 11) (by omega), Int.emod_lt_of_pos _ (by omega), a0, hb0, hb'⟩
    have m1 : dMul (ρ := ρ) (.int b) (.int 48271) = some (.dat (.int (b * 48271))) := mul_ok (by omega) (by decide)
    have m2 : dMul (ρ := ρ) (.int B) (.int B) = some (.dat (.int (B * B))) := mul_ok (by omega) (by omega)
    have d1 : ∀ i : Int, dFdiv (ρ := ρ) (.int i) (.int 11) = some (.dat (.int (i / 11))) := fun i => div_ok (by decide) (by decide)
    have e1 : ∀ i : Int, dMod (ρ := ρ) (.int i) (.int 2147483647) = some (.dat (.int (i % 2147483647))) := fun i => mod_ok (by decide)
    have e2 : ∀ i : Int, dMod (ρ := ρ) (.int i) (.int 2147483629) = some (.dat (.int (i % 2147483629))) := fun i => mod_ok (by decide)
    have e3 : ∀ i : Int, dMod (ρ := ρ) (.int i) (.int n) = some (.dat (.int (i % n))) := fun i => mod_ok (by omega)
    simp [m__law_take, mFn_ev, ha, m1, m2, d1, e1, e2, e3, hB, ix0, ix1, hk, -dMod_int, -dFdiv_int, -dMul_int]
theorem r_at (ns : List Int) (k : Nat) : ∃ v : Int, m__law_at (ρ := ρ) [.dat (.scr ns), .dat (.int (k : Int))] = .ok (.dat (.int v)) [.no, .no] := by
  by_cases h : k < ns.length
  · have h' : (k : Int) < ns.length := by omega
    have hix : atI ns (k : Int) = some ns[k] := atI_at (List.getElem?_eq_getElem h)
    exact ⟨_, by simp [m__law_at, mFn_ev, h, hix]; rfl⟩
  · exact ⟨0, by simp [m__law_at, mFn_ev, h]⟩
theorem r_pot (ns : List Int) (k : Nat) (hk : k ≤ 64) : ∃ a b, m__law_pot (ρ := ρ) [.dat (.scr ns), .dat (.int (k : Int))] = .ok (.lst [.int a, .int b]) [.no, .no] ∧ PotOk a b := by
  obtain ⟨v, hv⟩ := r_at (ρ := ρ) ns k
  have e1 : ∀ i : Int, dMod (ρ := ρ) (.int i) (.int 2147483647) = some (.dat (.int (i % 2147483647))) := fun i => mod_ok (by decide)
  have e2 : ∀ i : Int, dMod (ρ := ρ) (.int i) (.int 2147483629) = some (.dat (.int (i % 2147483629))) := fun i => mod_ok (by decide)
  obtain ⟨B, hB⟩ : ∃ B, v % 2147483629 = B := ⟨_, rfl⟩
  have hb' : B < 2147483629 := by rw [← hB]; exact Int.emod_lt_of_pos _ (by decide)
  have hb0 : 0 ≤ B := by rw [← hB]; exact Int.emod_nonneg _ (by decide)
  have m1 : dMul (ρ := ρ) (.int 977) (.int (k : Int)) = some (.dat (.int (977 * k))) := mul_ok (by decide) (by omega)
  have m2 : dMul (ρ := ρ) (.int (B + 11)) (.int (977 * k + 131)) = some (.dat (.int ((B + 11) * (977 * k + 131)))) := mul_ok (by omega) (by omega)
  obtain ⟨C, hC⟩ : ∃ C, (B + 11) * (977 * (k : Int) + 131) = C := ⟨_, rfl⟩
  have hc : 0 ≤ C ∧ C < 2 ^ 50 := by
    rw [← hC]
    refine ⟨Int.mul_nonneg (by omega) (by omega), ?_⟩
    calc (B + 11) * (977 * (k : Int) + 131) ≤ 2147483640 * 62659 := Int.mul_le_mul (by omega) (by omega) (by omega) (by decide)
      _ < 2 ^ 50 := by decide
  have p1 : dPow (ρ := ρ) (.int (C + 7)) (.int 5) = some (.dat (.int ((C + 7) ^ 5))) := pow_ok (n := 5) (by omega) (by decide)
  have p2 : dPow (ρ := ρ) (.int 10) (.int 18) = some (.dat (.int (10 ^ 18))) := pow_ok (n := 18) (by decide) (by decide)
  refine ⟨max 0 (v - 10 ^ 18), (C + 7) ^ 5 % 2147483647, ?_, by omega, Int.emod_nonneg _ (by decide), Int.emod_lt_of_pos _ (by decide)⟩
  simp only [m__law_pot, mFn_ev]
  simp [hv, e1, e2, hB, m1, m2, hC, p1, p2, sizeLine_eq, -dMod_int, -dMul_int, -dPow_int]
def tbl : List Deed := [⟨0, none, none⟩, ⟨1, none, none⟩, ⟨0, some 0, some 0⟩, ⟨0, some 1, some 1⟩, ⟨2, none, some 2⟩, ⟨-1, some 0, none⟩, ⟨1, some 0, some 2⟩, ⟨0, some 1, none⟩]
theorem tbl_D : ([.tup [.int 0, .non, .non], .tup [.int 1, .non, .non], .tup [.int 0, .int 0, .int 0], .tup [.int 0, .int 1, .int 1], .tup [.int 2, .non, .int 2], .tup [.int (-1), .int 0, .non], .tup [.int 1, .int 0, .int 2], .tup [.int 0, .int 1, .non]] : List D) = tbl.map Deed.D := rfl
theorem tbl_ix {d : Int} (h0 : 0 ≤ d) (h1 : d < 8) : ∃ e : Deed, atI (tbl.map Deed.D) d = some e.D ∧ e.ok = true := by
  obtain ⟨k, rfl⟩ : ∃ k : Nat, d = (k : Int) := ⟨d.toNat, by omega⟩
  have hk : k < tbl.length := by show k < 8; omega
  refine ⟨tbl[k], atI_at (by rw [List.getElem?_map, List.getElem?_eq_getElem hk]; rfl), ?_⟩
  have : ∀ e ∈ tbl, e.ok = true := by decide
  exact this _ (List.getElem_mem hk)
theorem r_call {a b : Int} {n : Nat} (h : PotOk a b) (hn : 1 ≤ n) (hn2 : n ≤ 16) : ∃ (c : Call) (a' b' : Int), m__law_call (ρ := ρ) [.lst [.int a, .int b], .dat (.int (n : Int))] = .ok (.dat c.D) [.lst [.int a', .int b'], .no] ∧ c.ok n = true ∧ PotOk a' b' := by
  obtain ⟨v1, a1, b1, t1, x1, y1, h1⟩ := r_take (ρ := ρ) (n := 5) h (by decide) (by decide)
  obtain ⟨v2, a2, b2, t2, x2, y2, h2⟩ := r_take (ρ := ρ) (n := 4) h1 (by decide) (by decide)
  obtain ⟨v3, a3, b3, t3, x3, y3, h3⟩ := r_take (ρ := ρ) (n := 16) h2 (by decide) (by decide)
  obtain ⟨v4, a4, b4, t4, x4, y4, h4⟩ := r_take (ρ := ρ) (n := (n : Int)) h3 (by omega) (by omega)
  obtain ⟨v5, a5, b5, t5, x5, y5, h5⟩ := r_take (ρ := ρ) (n := 8) h4 (by decide) (by decide)
  obtain ⟨v6, a6, b6, t6, x6, y6, h6⟩ := r_take (ρ := ρ) (n := 3) h5 (by decide) (by decide)
  obtain ⟨e, he, hok⟩ := tbl_ix x5 y5
  refine ⟨⟨v3, v4, e, v1, v1 + v2, v6⟩, a6, b6, ?_, ?_, h6⟩
  · have hk : ∀ x y z u v w : SV ρ, keep [0] 2 [x, y, z, u, v, w] = [x, .no] := fun _ _ _ _ _ _ => rfl
    simp only [m__law_call, mFn_ev]
    simp [akVals_io, t1, t2, t3, t4, t5, t6, sizeLine_eq, tbl_D, he, hk, Call.D]
  · unfold Call.ok
    simp only [Bool.and_eq_true, decide_eq_true_eq]
    exact ⟨⟨⟨x3, y3⟩, ⟨x4, y4⟩, hok⟩, x1, by show v1 ≤ v1 + v2; omega⟩
end K74
set_option Elab.async false
set_option linter.all false
set_option maxRecDepth 100000
set_option maxHeartbeats 4000000
namespace K74
open PySem PySem.Spec L2 Mir
variable {ρ : Type} [Rsc ρ] [HasD ρ] {bs : List Int} {cs : List Call}

/-! ### comprehensions that draw -/
theorem compL_st {α : Type} {g : D → Env ρ → Rs ρ Unit} {me : ME ρ} {vs : List Nat} {enc : α → D} {R : Env ρ → Prop} {P : D → Prop} : ∀ (xs : List α) (E : Env ρ) (acc : List D), R E → acc.length + xs.length ≤ sizeLine →
    (∀ x ∈ xs, ∀ E, R E → ∃ e1 e2 d, g (enc x) E = .ok () e1 ∧ toD me e1 = .ok d e2 ∧ P d ∧ R (gForget vs e2)) → ∃ ds E', compL g mYes me vs (xs.map enc) E acc = .ok (acc ++ ds) E' ∧ ds.length = xs.length ∧ (∀ d ∈ ds, P d) ∧ R E'
  | [], E, acc, hr, _, _ => ⟨[], E, by simp [compL], rfl, fun d h => (by cases h), hr⟩
  | x :: xs, E, acc, hr, hz, h => by
    obtain ⟨e1, e2, d, h1, h2, h3, h4⟩ := h x List.mem_cons_self E hr
    rw [List.length_cons] at hz
    obtain ⟨ds, E', k1, k2, k3, k4⟩ := compL_st (me := me) (P := P) xs (gForget vs e2) (acc ++ [d]) h4 (by rw [List.length_append, List.length_singleton]; omega) fun y hy => h y (List.mem_cons_of_mem _ hy)
    refine ⟨d :: ds, E', ?_, by simp [k2], fun y hy => ?_, k4⟩
    · have hy : (mYes : MT ρ) e1 = .ok true e1 := rfl
      rw [List.map_cons, compL_cons, h1]
      dsimp only
      rw [hy]
      dsimp only
      rw [if_pos rfl, h2]
      dsimp only
      rw [if_pos (by omega), k1, List.append_assoc]
      rfl
    · rcases List.mem_cons.mp hy with rfl | hy
      · exact h3
      · exact k3 y hy
/-! ### all orders -/
def longer (n : Nat) (found : List (List Nat)) : List (List Nat) := (found.map fun row => ((List.range n).filter fun k => decide (k ∉ row)).map fun k => row ++ [k]).flatten
def allOf (n : Nat) : Nat → List (List Nat)
  | 0 => [[]]
  | t + 1 => longer n (allOf n t)
theorem mem_longer {n : Nat} {found : List (List Nat)} {row : List Nat} : row ∈ longer n found ↔ ∃ r k, r ∈ found ∧ k < n ∧ k ∉ r ∧ row = r ++ [k] := by
  unfold longer
  rw [List.mem_flatten]
  constructor
  · rintro ⟨l, h1, h2⟩
    obtain ⟨r, hr, rfl⟩ := List.mem_map.mp h1
    obtain ⟨k, hk, rfl⟩ := List.mem_map.mp h2
    obtain ⟨k1, k2⟩ := List.mem_filter.mp hk
    exact ⟨r, k, hr, List.mem_range.mp k1, by simpa using k2, rfl⟩
  · rintro ⟨r, k, hr, hk, hn, rfl⟩
    exact ⟨_, List.mem_map_of_mem hr, List.mem_map.mpr ⟨k, List.mem_filter.mpr ⟨List.mem_range.mpr hk, by simpa using hn⟩, rfl⟩⟩
theorem mem_allOf (n : Nat) : ∀ (t : Nat) (row : List Nat), row ∈ allOf n t ↔ row.Nodup ∧ (∀ k ∈ row, k < n) ∧ row.length = t
  | 0, row => by
    show row ∈ [[]] ↔ _
    rw [List.mem_singleton]
    constructor
    · rintro rfl; exact ⟨List.nodup_nil, fun k h => (by cases h), rfl⟩
    · rintro ⟨_, _, h⟩; exact List.length_eq_zero_iff.mp h
  | t + 1, row => by
    show row ∈ longer n (allOf n t) ↔ _
    rw [mem_longer]
    constructor
    · rintro ⟨r, k, hr, hk, hn, rfl⟩
      obtain ⟨h1, h2, h3⟩ := (mem_allOf n t r).mp hr
      refine ⟨List.nodup_append.mpr ⟨h1, by simp, fun a ha b hb => by simp at hb; rw [hb]; intro e; exact hn (e ▸ ha)⟩, fun j hj => ?_, by simp [h3]⟩
      rcases List.mem_append.mp hj with h | h
      · exact h2 j h
      · simp at h; omega
    · rintro ⟨h1, h2, h3⟩
      have hne : row ≠ [] := by intro e; rw [e] at h3; simp at h3
      have e : row.dropLast ++ [row.getLast hne] = row := List.dropLast_concat_getLast hne
      rw [← e] at h1
      obtain ⟨n1, n2, n3⟩ := List.nodup_append.mp h1
      refine ⟨row.dropLast, row.getLast hne, (mem_allOf n t _).mpr ⟨n1, fun k hk => h2 k (List.dropLast_subset _ hk), by rw [List.length_dropLast]; omega⟩, h2 _ (List.getLast_mem hne), fun hm => n3 _ hm _ (by simp) rfl, e.symm⟩
theorem allOf_perm {n : Nat} {row : List Nat} : row ∈ allOf n n ↔ row.Perm (List.range n) := by
  rw [mem_allOf]
  constructor
  · rintro ⟨h1, h2, h3⟩
    exact perm_of_subset h1 (fun k hk => List.mem_range.mpr (h2 k hk)) (by rw [List.length_range]; exact h3)
  · intro h
    exact ⟨h.nodup_iff.mpr List.nodup_range, fun k hk => List.mem_range.mp (h.mem_iff.mp hk), by rw [h.length_eq, List.length_range]⟩
theorem length_longer {n : Nat} : ∀ found : List (List Nat), (longer n found).length ≤ found.length * n
  | [] => by simp [longer]
  | r :: found => by
    have ih := length_longer (n := n) found
    unfold longer at ih ⊢
    rw [List.map_cons, List.flatten_cons, List.length_append, List.length_cons, List.length_map]
    have := List.length_filter_le (fun k => decide (k ∉ r)) (List.range n)
    rw [List.length_range] at this
    rw [Nat.add_mul]
    omega
theorem length_allOf (n : Nat) : ∀ t, (allOf n t).length ≤ n ^ t
  | 0 => by simp [allOf]
  | t + 1 => by
    have h1 := length_longer (n := n) (allOf n t)
    have h2 := Nat.mul_le_mul_right n (length_allOf n t)
    show (longer n (allOf n t)).length ≤ n ^ (t + 1)
    rw [Nat.pow_succ]
    omega
def rowD (row : List Nat) : D := .tup (row.map nD)
theorem comp_next (n : Nat) (r : List Nat) (hn : n ≤ 1000) (hr : r.length ≤ 1000) (f t L z : SV ρ) : mComp (srcSeq (mVar 0)) (tgN 5) (mTest (mOp dNotIn (mVar 5) (mVar 4))) (mOp dAdd (mVar 4) (mTup (mArgs [mVar 5]))) [5] [.dat (.lst ((List.range n).map nD)), f, t, L, .dat (rowD r), z] =
    .ok (.lst ((((List.range n).filter fun k => decide (k ∉ r)).map fun k => r ++ [k]).map rowD)) [.dat (.lst ((List.range n).map nD)), f, t, L, .dat (rowD r), (match z with | .dat d => .dat d | _ => .no)] := by
  refine (comp_some (enc := nD) (f := fun k => rowD (r ++ [k])) (pr := fun k => decide (k ∉ r)) (env1 := [.dat (.lst ((List.range n).map nD)), f, t, L, .dat (rowD r), z]) (List.range n) (by simp) (by rw [List.length_range, sizeLine_eq]; omega)
    fun k hk => ⟨[.dat (.lst ((List.range n).map nD)), f, t, L, .dat (rowD r), .dat (nD k)], rfl, rfl, ?_, fun _ => ?_⟩).trans ?_
  · have hall : (r.map nD).all (sm 63) = true := all_sm (sm_nD 63) r
    have hany := any_map (f := nD) eqD_nD k r
    simp only [mTest_ev, mOp_ev, toD_ev, mVar_ev, List.getElem?_cons_succ, List.getElem?_cons_zero, Rs.bind_ok, datOf_dat, rowD]
    rw [dNotIn_tup (sm_nD 64 k) hall, hany]
    simp
  · have h1 : r.length + 1 ≤ 16777216 := by omega
    simp [rowD, sizeLine_eq, h1]
  · rw [List.map_map]
    cases z <;> rfl
theorem foldl_app {α β : Type} (f : α → List β) : ∀ (xs : List α) (acc : List β), xs.foldl (fun a x => a ++ f x) acc = acc ++ (xs.map f).flatten
  | [], acc => by simp
  | x :: xs, acc => by rw [List.foldl_cons, foldl_app f xs, List.map_cons, List.flatten_cons, List.append_assoc]
theorem foldl_allOf (n : Nat) : ∀ t : Nat, (List.range t).foldl (fun found _ => longer n found) [[]] = allOf n t
  | 0 => rfl
  | t + 1 => by rw [List.range_succ, List.foldl_append, foldl_allOf n t]; rfl
theorem sub_pow (n t : Nat) (hn : n ≤ 5) (ht : t ≤ 5) : n ^ t ≤ 3125 := by
  calc n ^ t ≤ 5 ^ t := Nat.pow_le_pow_left hn t
    _ ≤ 5 ^ 5 := Nat.pow_le_pow_right (by decide) ht
    _ = 3125 := by decide
theorem allOf_row {n t : Nat} {r : List Nat} (h : r ∈ allOf n t) : r.length ≤ n := by
  obtain ⟨h1, h2, _⟩ := (mem_allOf n t r).mp h
  have := length_le_of_subset (ys := List.range n) h1 fun k hk => List.mem_range.mpr (h2 k hk)
  rwa [List.length_range] at this
theorem allOf_len (n t : Nat) (hn : n ≤ 5) : (allOf n t).length ≤ 3125 := by
  by_cases ht : t ≤ n
  · exact Nat.le_trans (length_allOf n t) (sub_pow n t hn (by omega))
  · have : allOf n t = [] := by
      rw [List.eq_nil_iff_forall_not_mem]
      intro r hr
      have h1 := allOf_row hr
      have h2 := ((mem_allOf n t r).mp hr).2.2
      omega
    rw [this]; simp
def nexts (n : Nat) (r : List Nat) : List (List Nat) := ((List.range n).filter fun k => decide (k ∉ r)).map fun k => r ++ [k]
theorem longer_take (n : Nat) (found : List (List Nat)) (i : Nat) : (longer n (found.take i)).length ≤ found.length * n := by
  have h := length_longer (n := n) (found.take i)
  have h2 : (found.take i).length ≤ found.length := by rw [List.length_take]; omega
  exact Nat.le_trans h (Nat.mul_le_mul_right n h2)
theorem loop_rows (n : Nat) (found : List (List Nat)) (hn : n ≤ 5) (hf1 : found.length ≤ 3125) (hf2 : ∀ r ∈ found, r.length ≤ n) (f t z4 z5 : SV ρ) : ∃ y4 y5, forL (tgN 4) (sExpr (mOwn 3 fExtend (mArgs [(mComp (srcSeq (mVar 0)) (tgN 5) (mTest (mOp dNotIn (mVar 5) (mVar 4))) (mOp dAdd (mVar 4) (mTup (mArgs [(mVar 5)]))) [5])]))) (found.map rowD)
    [.dat (.lst ((List.range n).map nD)), f, t, .lst [], z4, z5] = .nx [.dat (.lst ((List.range n).map nD)), f, t, .lst ((longer n found).map rowD), y4, y5] := by
  refine forL_rule (Post := fun r => ∃ y4 y5, r = .nx [.dat (.lst ((List.range n).map nD)), f, t, .lst ((longer n found).map rowD), y4, y5]) (R := fun i env => ∃ y4 y5, env = [.dat (.lst ((List.range n).map nD)), f, t, .lst ((longer n (found.take i)).map rowD), y4, y5]) (found.map rowD) _ ⟨_, _, rfl⟩ ?_ ?_
  · rintro env ⟨y4, y5, rfl⟩
    rw [List.length_map, List.take_length]
    exact ⟨_, _, rfl⟩
  · rintro i x env hx ⟨y4, y5, rfl⟩
    rw [List.getElem?_map] at hx
    cases hr : found[i]? with
    | none => rw [hr] at hx; cases hx
    | some r =>
      rw [hr] at hx
      cases hx
      have hl := hf2 r (List.mem_of_getElem? hr)
      obtain ⟨w, hc⟩ : ∃ w : SV ρ, _ = Rs.ok _ [_, _, _, _, _, w] := ⟨_, comp_next (ρ := ρ) n r (by omega) (by omega) f t (.lst ((longer n (found.take i)).map rowD)) y5⟩
      have hi : i < found.length := (List.getElem?_eq_some_iff.mp hr).1
      have e : longer n (found.take (i + 1)) = longer n (found.take i) ++ nexts n r := by
        rw [List.take_succ_eq_append_getElem hi]
        unfold longer nexts
        rw [List.map_append, List.flatten_append]
        have : found[i] = r := (List.getElem?_eq_some_iff.mp hr).2
        simp [this]
      have h1 := longer_take n found (i + 1)
      rw [e, List.length_append] at h1
      have h2 : found.length * n ≤ 3125 * 5 := Nat.mul_le_mul hf1 hn
      have h3 : (longer n (found.take i)).length + (nexts n r).length ≤ 16777216 := by omega
      refine ⟨_, rfl, .inl ⟨[.dat (.lst ((List.range n).map nD)), f, t, .lst ((longer n (found.take (i + 1))).map rowD), .dat (rowD r), w], ?_, _, _, rfl⟩⟩
      unfold nexts at e h3
      generalize (((List.range n).filter fun k => decide (k ∉ r)).map fun k => r ++ [k]) = N at hc e h3
      rw [e]
      simp [mOwn_ev, hc, fExtend, sizeLine_eq, h3]
theorem r_law_all (n : Nat) (hn : n ≤ 5) : m__law_all (ρ := ρ) [.dat (.lst ((List.range n).map nD))] = .ok (.dat (.lst ((allOf n n).map rowD))) [.no] := by
  simp [m__law_all, mFn_ev, sizeLine_eq]
  rw [rng1_ev (n := n) (env' := [.dat (.lst ((List.range n).map nD)), .dat (.lst [.tup []]), .no, .no, .no, .no]) (by simp) (by omega)]
  simp only [Rs.thenS_ok]
  refine forL_all (fun r => fnEnd [] 1 (r.andThen _) = _) (R := fun (found : List (List Nat)) env => (∃ t, found = allOf n t) ∧ ∃ z2 z3 z4 z5, env = [.dat (.lst ((List.range n).map nD)), .dat (.lst (found.map rowD)), z2, z3, z4, z5]) (f := fun found _ => longer n found) (List.range n) [[]] _ ⟨⟨0, rfl⟩, _, _, _, _, rfl⟩ ?_ ?_
  · rintro i hi found env ⟨⟨t, rfl⟩, z2, z3, z4, z5, rfl⟩
    obtain ⟨y4, y5, hl⟩ := loop_rows (ρ := ρ) n (allOf n t) hn (allOf_len n t hn) (fun r hr => allOf_row hr) (.dat (.lst ((allOf n t).map rowD))) (.dat (nD i)) z4 z5
    refine ⟨[.dat (.lst ((List.range n).map nD)), .dat (.lst ((longer n (allOf n t)).map rowD)), .dat (nD i), .dat (.lst ((longer n (allOf n t)).map rowD)), y4, y5], ⟨_, rfl, ?_⟩, ⟨t + 1, rfl⟩, _, _, _, _, rfl⟩
    simp [hl, gFreeze]
  · rintro env' ⟨_, z2, z3, z4, z5, rfl⟩
    rw [foldl_allOf]
    simp
end K74
set_option Elab.async false
set_option linter.all false
set_option maxRecDepth 100000
set_option maxHeartbeats 4000000
namespace K74
open PySem PySem.Spec L2 Mir
variable {ρ : Type} [Rsc ρ] [HasD ρ] {bs : List Int} {cs : List Call}

/-! ### the search, box by box -/
abbrev Sta := List Nat × Int
def stD (s : Sta) : D := .tup [rowD s.1, .int s.2]
def mayNext (cs : List Call) (left : List Nat) (k : Nat) (v : Int) : Bool := decide ((at_ cs k).ans = v) && !(left.any fun j => decide ((at_ cs j).fin < (at_ cs k).beg))
theorem comp_ahead (left : List Nat) (k : Nat) (hl : ∀ j ∈ left, j < cs.length) (hk : k < cs.length) (hz : left.length ≤ sizeLine) (y z : SV ρ) : mComp (srcSeq (mVar 1)) (tgN 4) mYes (mCall m_is_ahead [.e (mVar 0), .e (mVar 4), .e (mVar 2)]) [4] [.dat (.tup (cs.map Call.D)), .dat (rowD left), .dat (nD k), y, .no] =
    .ok (.lst ((left.map fun j => decide ((at_ cs j).fin < (at_ cs k).beg)).map .bl)) [.dat (.tup (cs.map Call.D)), .dat (rowD left), .dat (nD k), y, .no] := by
  refine (comp_all (enc := nD) (f := fun j => .bl (decide ((at_ cs j).fin < (at_ cs k).beg))) (env1 := [.dat (.tup (cs.map Call.D)), .dat (rowD left), .dat (nD k), y, .no]) left (by simp [rowD]) hz
    fun j hj => ⟨[.dat (.tup (cs.map Call.D)), .dat (rowD left), .dat (nD k), y, .dat (nD j)], rfl, rfl, by simp [r_is_ahead cs (hl j hj) hk]⟩).trans ?_
  rw [List.map_map]; rfl
theorem r_may_be_next (left : List Nat) (k : Nat) (v : Int) (hl : ∀ j ∈ left, j < cs.length) (hk : k < cs.length) (hz : left.length ≤ sizeLine) : m_may_be_next (ρ := ρ) [.dat (.tup (cs.map Call.D)), .dat (rowD left), .dat (nD k), .dat (.int v)] = .ok (.dat (.bl (mayNext cs left k v))) [.no, .no, .no, .no] := by
  have hc := comp_ahead (ρ := ρ) left k hl hk hz (.dat (.int v)) .no
  have ha : (left.map fun j => decide ((at_ cs j).fin < (at_ cs k).beg)).any id = left.any fun j => decide ((at_ cs j).fin < (at_ cs k).beg) := by rw [List.any_map]; rfl
  unfold mayNext
  rw [← ha]
  generalize (left.map fun j => decide ((at_ cs j).fin < (at_ cs k).beg)) = B at hc ⊢
  have h5 : dIx (ρ := ρ) (at_ cs k).D (.int 5) = some (.dat (.int (at_ cs k).ans)) := by simp [Call.D]
  have h1 : dIx (ρ := ρ) (.tup (cs.map Call.D)) (nD k) = some (.dat (at_ cs k).D) := by simp [nD, ix_call hk]
  simp [m_may_be_next, mFn_ev, h1, h5, dEq_sm, hc, -dIx_tup]
  by_cases h : (at_ cs k).ans = v <;> simp [h]
def succ (cs : List Call) (s : Sta) : List (Sta × Nat) := (s.1.filter fun k => mayNext cs s.1 k s.2).map fun k => ((s.1.filter fun j => decide (j ≠ k), (at_ cs k).deed.act s.2), k)
def edD (p : Sta × Nat) : D := .tup [stD p.1, nD p.2]
theorem comp_rest (left : List Nat) (k : Nat) (hz : left.length ≤ sizeLine) (a b c d e z : SV ρ) : mComp (srcSeq (mVar 2)) (tgN 7) (mTest (mOp dNe (mVar 7) (mVar 5))) (mVar 7) [7] [a, b, .dat (rowD left), c, d, .dat (nD k), e, z] =
    .ok (.lst ((left.filter fun j => decide (j ≠ k)).map nD)) [a, b, .dat (rowD left), c, d, .dat (nD k), e, (match z with | .dat d => .dat d | _ => .no)] := by
  refine (comp_some (enc := nD) (f := nD) (pr := fun j => decide (j ≠ k)) (env1 := [a, b, .dat (rowD left), c, d, .dat (nD k), e, z]) left (by simp [rowD]) hz
    fun j hj => ⟨[a, b, .dat (rowD left), c, d, .dat (nD k), e, .dat (nD j)], rfl, rfl, ?_, fun _ => by simp⟩).trans ?_
  · simp [dNe_sm]
  · cases z <;> rfl
def succT (cs : List Call) (s : Sta) (l : List Nat) : List (Sta × Nat) := (l.filter fun k => mayNext cs s.1 k s.2).map fun k => ((s.1.filter fun j => decide (j ≠ k), (at_ cs k).deed.act s.2), k)
theorem r_next_states (s : Sta) (hl : ∀ j ∈ s.1, j < cs.length) (hz : s.1.length ≤ 1000) : m_next_states (ρ := ρ) [.dat (.tup (cs.map Call.D)), .dat (stD s)] = .ok (.lst ((succ cs s).map edD)) [.no, .no] := by
  obtain ⟨left, v⟩ := s
  have hz' : left.length ≤ sizeLine := by rw [sizeLine_eq]; exact Nat.le_trans hz (by decide)
  simp [m_next_states, mFn_ev, stD, rowD, sizeLine_eq]
  refine forL_rule (Post := fun r => fnEnd [] 2 (r.andThen _) = _) (R := fun i env => ∃ z5 z6 z7, env = [.dat (.tup (cs.map Call.D)), .dat (stD (left, v)), .dat (rowD left), .dat (.int v), .lst ((succT cs (left, v) (left.take i)).map edD), z5, z6, z7]) (left.map nD) _ ⟨_, _, _, rfl⟩ ?_ ?_
  · rintro env ⟨z5, z6, z7, rfl⟩
    rw [List.length_map, List.take_length]
    simp
    rfl
  · rintro i x env hx ⟨z5, z6, z7, rfl⟩
    rw [List.getElem?_map] at hx
    cases hr : left[i]? with
    | none => rw [hr] at hx; cases hx
    | some k =>
      rw [hr] at hx
      cases hx
      have hi : i < left.length := (List.getElem?_eq_some_iff.mp hr).1
      have hki : left[i] = k := (List.getElem?_eq_some_iff.mp hr).2
      have hk : k < cs.length := hl k (List.mem_of_getElem? hr)
      have hm := r_may_be_next (ρ := ρ) left k v hl hk hz'
      have hlen : (succT cs (left, v) (left.take i)).length < 16777216 := by
        unfold succT
        rw [List.length_map]
        have h1 := List.length_filter_le (fun k => mayNext cs (left, v).1 k (left, v).2) (left.take i)
        have h2 : left.length ≤ 1000 := hz
        have h3 := List.length_take_le i left
        omega
      have h2 : dIx (ρ := ρ) (at_ cs k).D (.int 2) = some (.dat (at_ cs k).deed.D) := by simp [Call.D]
      have h1 : dIx (ρ := ρ) (.tup (cs.map Call.D)) (nD k) = some (.dat (at_ cs k).D) := by simp [nD, ix_call hk]
      have hput := r_put (ρ := ρ) (at_ cs k).deed v
      refine ⟨_, rfl, .inl ?_⟩
      cases hb : mayNext cs left k v with
      | false =>
        have e : succT cs (left, v) (left.take (i + 1)) = succT cs (left, v) (left.take i) := by
          unfold succT
          rw [List.take_succ_eq_append_getElem hi, List.filter_append, hki]
          simp [hb]
        refine ⟨[.dat (.tup (cs.map Call.D)), .dat (stD (left, v)), .dat (rowD left), .dat (.int v), .lst ((succT cs (left, v) (left.take (i + 1))).map edD), .dat (nD k), z6, z7], ?_, _, _, _, rfl⟩
        rw [e]
        simp [hm, hb]
      | true =>
        have e : succT cs (left, v) (left.take (i + 1)) = succT cs (left, v) (left.take i) ++ [((left.filter fun j => decide (j ≠ k), (at_ cs k).deed.act v), k)] := by
          unfold succT
          rw [List.take_succ_eq_append_getElem hi, List.filter_append, hki]
          simp [hb]
        obtain ⟨w, hc⟩ : ∃ w : SV ρ, _ = Rs.ok _ [_, _, _, _, _, _, _, w] := ⟨_, comp_rest (ρ := ρ) left k hz' (.dat (.tup (cs.map Call.D))) (.dat (stD (left, v))) (.dat (.int v)) (.lst ((succT cs (left, v) (left.take i)).map edD)) z6 z7⟩
        have e2 : edD ((left.filter fun j => decide (j ≠ k), (at_ cs k).deed.act v), k) = .tup [.tup [.tup ((left.filter fun j => decide (j ≠ k)).map nD), .int ((at_ cs k).deed.act v)], nD k] := rfl
        refine ⟨[.dat (.tup (cs.map Call.D)), .dat (stD (left, v)), .dat (rowD left), .dat (.int v), .lst ((succT cs (left, v) (left.take (i + 1))).map edD), .dat (nD k), .dat (.tup ((left.filter fun j => decide (j ≠ k)).map nD)), w], ?_, _, _, _, rfl⟩
        rw [e, List.map_append, List.map_singleton, e2]
        generalize (left.filter fun j => decide (j ≠ k)) = F at hc ⊢
        simp [hm, hb, hc, mOwn_ev, fAppend, sizeLine_eq, hlen, h1, h2, hput, -dIx_tup]
end K74
set_option Elab.async false
set_option linter.all false
set_option maxRecDepth 100000
set_option maxHeartbeats 4000000
namespace K74
open PySem PySem.Spec L2 Mir
variable {ρ : Type} [Rsc ρ] [HasD ρ] {bs : List Int} {cs : List Call}

/-! ### states as keys -/
def numK (k : Nat) : NestedKey := .num (k : Int)
def keyOf (s : Sta) : NestedKey := .tup [.tup (s.1.map numK), .num s.2]
theorem nkA_row : ∀ row : List Nat, nkA (row.map nD) = some (row.map numK)
  | [] => rfl
  | k :: r => by show ((nk (nD k)).bind fun x => (nkA (r.map nD)).map (x :: ·)) = _; rw [nkA_row r]; rfl
theorem nk_st (s : Sta) : nk (stD s) = some (keyOf s) := by
  have h : nk (rowD s.1) = some (.tup (s.1.map numK)) := by
    show (nkA (s.1.map nD)).map NestedKey.tup = _
    rw [nkA_row]; rfl
  show (nkA [rowD s.1, .int s.2]).map NestedKey.tup = _
  show (((nk (rowD s.1)).bind fun x => (nkA [.int s.2]).map (x :: ·))).map NestedKey.tup = _
  rw [h]; rfl
theorem depthAll_num : ∀ row : List Nat, NestedKey.depthAll (row.map numK) = 0
  | [] => rfl
  | k :: r => by show max (NestedKey.depth (numK k)) (NestedKey.depthAll (r.map numK)) = 0; rw [depthAll_num r]; rfl
theorem key_st (s : Sta) : tkKey (stD s) = some (keyOf s) := by
  show ((nk (stD s)).bind fun k => if k.depth ≤ 8 then some k else none) = _
  rw [nk_st, Option.bind_some, if_pos]
  show max (NestedKey.depthAll (s.1.map numK) + 1) (max 0 0) + 1 ≤ 8
  rw [depthAll_num]; decide
theorem numK_inj : ∀ {a b : List Nat}, a.map numK = b.map numK → a = b
  | [], [], _ => rfl
  | [], _ :: _, h => by cases h
  | _ :: _, [], h => by cases h
  | x :: a, y :: b, h => by
    rw [List.map_cons, List.map_cons] at h
    injection h with h1 h2
    have e : ((x : Nat) : Int) = (y : Int) := by unfold numK at h1; injection h1
    rw [numK_inj h2, Int.ofNat_inj.mp e]
theorem keyOf_inj {s t : Sta} (h : keyOf s = keyOf t) : s = t := by
  unfold keyOf at h
  injection h with h
  injection h with h1 h2
  injection h1 with h1
  injection h2 with h2
  injection h2 with h2
  exact Prod.ext (numK_inj h1) h2

/-! ### what is reached -/
abbrev Rch := List (Sta × Option (Sta × Nat))
def enD : Option (Sta × Nat) → D
  | none => .non
  | some p => edD p
def kvD (p : Sta × Option (Sta × Nat)) : D × D := (stD p.1, enD p.2)
def look (R : Rch) (s : Sta) : Option (Option (Sta × Nat)) := (R.find? fun p => decide (p.1 = s)).map (·.2)
theorem tkGet_kv (s : Sta) : ∀ R : Rch, tkGet (R.map kvD) (keyOf s) = (look R s).map enD
  | [] => rfl
  | p :: R => by
    unfold tkGet look
    rw [List.map_cons]
    by_cases h : p.1 = s
    · have h1 : decide (nk (kvD p).1 = some (keyOf s)) = true := by show decide (nk (stD p.1) = some (keyOf s)) = true; rw [nk_st, h]; simp
      rw [List.find?_cons_of_pos (p := fun q : D × D => decide (nk q.1 = some (keyOf s))) h1, List.find?_cons_of_pos (by simpa using h)]
      rfl
    · have h1 : ¬ decide (nk (kvD p).1 = some (keyOf s)) = true := by
        show ¬ decide (nk (stD p.1) = some (keyOf s)) = true
        rw [nk_st, decide_eq_true_eq]
        intro e
        exact h (keyOf_inj (Option.some.inj e))
      rw [List.find?_cons_of_neg (p := fun q : D × D => decide (nk q.1 = some (keyOf s))) h1, List.find?_cons_of_neg (by simpa using h)]
      exact tkGet_kv s R
theorem look_none {R : Rch} {s : Sta} : look R s = none ↔ s ∉ R.map (·.1) := by
  unfold look
  rw [Option.map_eq_none_iff, List.find?_eq_none]
  constructor
  · intro h hm
    obtain ⟨p, hp, e⟩ := List.mem_map.mp hm
    exact h p hp (by simpa using e)
  · intro h p hp e
    exact h (List.mem_map.mpr ⟨p, hp, by simpa using e⟩)
theorem look_at {R : Rch} (hn : (R.map (·.1)).Nodup) {j : Nat} {s : Sta} {e : Option (Sta × Nat)} (h : R[j]? = some (s, e)) : look R s = some e := by
  induction R generalizing j with
  | nil => simp at h
  | cons p R ih =>
    rw [List.map_cons, List.nodup_cons] at hn
    unfold look
    cases j with
    | zero => simp at h; subst h; simp
    | succ j =>
      have h' : R[j]? = some (s, e) := by simpa using h
      have : p.1 ≠ s := fun z => hn.1 (List.mem_map.mpr ⟨(s, e), List.mem_of_getElem? h', z.symm⟩)
      rw [List.find?_cons_of_neg (by simpa using this)]
      exact ih hn.2 h'
def addOne (s : Sta) (R : Rch) (p : Sta × Nat) : Rch := if p.1 ∈ R.map (·.1) then R else R ++ [(p.1, some (s, p.2))]
def addAll (s : Sta) (R : Rch) (l : List (Sta × Nat)) : Rch := l.foldl (addOne s) R
/-! ### paths -/
inductive Path (cs : List Call) : Sta → List Nat → Sta → Prop
  | nil (s : Sta) : Path cs s [] s
  | cons {s t u : Sta} {k : Nat} {r : List Nat} : (t, k) ∈ succ cs s → Path cs t r u → Path cs s (k :: r) u
/-- what holds of the search -/
structure Srch (cs : List Call) (nums : List Nat) (v0 : Int) (U : List Sta) (R : Rch) (i : Nat) : Prop where
  nd : (R.map (·.1)).Nodup
  z : R[0]? = some ((nums, v0), none)
  back : ∀ j s e, R[j]? = some (s, e) → (j = 0 ∧ e = none) ∨ ∃ p k j' f, e = some (p, k) ∧ j' < j ∧ R[j']? = some (p, f) ∧ (s, k) ∈ succ cs p
  done : ∀ j s e, j < i → R[j]? = some (s, e) → s.1 ≠ [] ∧ ∀ q ∈ succ cs s, q.1 ∈ R.map (·.1)
  uni : ∀ s ∈ R.map (·.1), s ∈ U
  le : i ≤ R.length
theorem tkOf_tk (kvs : List (D × D)) : tkOf (some (tkS kvs : SV ρ)) = some kvs := HasD.un_tk kvs
theorem tkIx_ev {R : Rch} {s : Sta} {e : Option (Sta × Nat)} (h : look R s = some e) {i : Nat} {b : ME ρ} {env : Env ρ} (h1 : env[i]? = some (tkS (R.map kvD))) (h2 : toD b env = .ok (stD s) env) : mTkIx i b env = .ok (.dat (enD e)) env := by
  unfold mTkIx
  rw [h1, tkOf_tk]
  dsimp only
  rw [h2, Rs.bind_ok, h1, tkOf_tk, key_st]
  dsimp only
  rw [tkGet_kv, h]
  rfl
theorem Srch.small {nums : List Nat} {v0 : Int} {U : List Sta} {R : Rch} {i : Nat} (h : Srch cs nums v0 U R i) : R.length ≤ U.length := by
  have := length_le_of_subset h.nd h.uni
  rwa [List.length_map] at this
theorem r_row_to {nums : List Nat} {v0 : Int} {U : List Sta} {R : Rch} {i : Nat} (h : Srch cs nums v0 U R i) (hU : U.length ≤ 5000) {j : Nat} {s : Sta} {e : Option (Sta × Nat)} (hj : R[j]? = some (s, e)) :
    ∃ row, m_row_to (ρ := ρ) [tkS (R.map kvD), .dat (stD s)] = .ok (.dat (rowD row)) [tkS (R.map kvD), .no] ∧ Path cs (nums, v0) row s := by
  have hR := h.small
  simp [m_row_to, mFn_ev, sizeLine_eq]
  have hjl : j < R.length := (List.getElem?_eq_some_iff.mp hj).1
  refine whileN_rule (Post := fun r => ∃ row, fnEnd [0] 2 (r.andThen _) = Rs.ok (SV.dat (rowD row)) [tkS (R.map kvD), .no] ∧ Path cs (nums, v0) row s) (σ := Nat × Sta × List Nat)
    (R := fun (x : Nat × Sta × List Nat) env => (∃ z, env = [tkS (R.map kvD), .dat (stD x.2.1), .lst (x.2.2.map nD), z]) ∧ (∃ f, R[x.1]? = some (x.2.1, f)) ∧ Path cs x.2.1 x.2.2.reverse s ∧ x.2.2.length + x.1 ≤ 5000) (fun x => x.1) ?_ 100000 (j, s, []) _ ⟨⟨_, rfl⟩, ⟨e, hj⟩, .nil s, by show 0 + j ≤ 5000; omega⟩ (by show j < 100000; omega)
  rintro ⟨j, t, found⟩ env ⟨⟨z, rfl⟩, ⟨f, hf⟩, hp, hlen⟩
  dsimp only at hf hp hlen
  have hl := look_at h.nd hf
  have hx := tkIx_ev (ρ := ρ) hl (i := 0) (b := mVar 1) (env := [tkS (R.map kvD), .dat (stD t), .lst (found.map nD), z]) rfl (by simp)
  rcases h.back j t f hf with ⟨rfl, rfl⟩ | ⟨p, k, j', f', rfl, hj', hp', hs⟩
  · refine .inl ⟨[tkS (R.map kvD), .dat (stD t), .lst (found.map nD), z], by simp [hx, enD], found.reverse, ?_, ?_⟩
    · have hk : ∀ x y u v : SV ρ, keep [0] 2 [x, y, u, v] = [x, .no] := fun _ _ _ _ => rfl
      simp [mOwn_ev, fReverse, hk, rowD]
    · have e1 := h.z
      rw [hf] at e1
      cases e1
      exact hp
  · refine .inr ⟨[tkS (R.map kvD), .dat (stD t), .lst (found.map nD), z], by simp [hx, enD, edD], .inl ⟨(j', p, found ++ [k]), [tkS (R.map kvD), .dat (stD p), .lst ((found ++ [k]).map nD), .dat (nD k)], ?_, ⟨⟨_, rfl⟩, ⟨f', hp'⟩, ?_, ?_⟩, hj'⟩⟩
    · have h3 : found.length < 16777216 := by omega
      simp [hx, enD, edD, mOwn_ev, fAppend, sizeLine_eq, h3]
    · dsimp only
      rw [List.reverse_append]
      exact .cons hs hp
    · dsimp only
      rw [List.length_append, List.length_singleton]
      omega
end K74
set_option Elab.async false
set_option linter.all false
set_option maxRecDepth 100000
set_option maxHeartbeats 4000000
namespace K74
open PySem PySem.Spec L2 Mir
variable {ρ : Type} [Rsc ρ] [HasD ρ] {bs : List Int} {cs : List Call}

theorem addOne_len (s : Sta) (R : Rch) (p : Sta × Nat) : (addOne s R p).length ≤ R.length + 1 := by
  unfold addOne; split
  · omega
  · simp
theorem loop_add (s : Sta) (c n v at_ : SV ρ) : ∀ (l : List (Sta × Nat)) (R : Rch) (z7 z8 : SV ρ), R.length + l.length ≤ 10000000 →
    ∃ y7 y8, forL (tgT 2 (tgCons (tgN 7) (tgCons (tgN 8) tgNil))) (sIf (mTest (mTkNotIn 3 (mVar 7))) (sSeq (sAsgG (tgTk 3 (mVar 7)) (mTup (mArgs [(mVar 6), (mVar 8)]))) (sExpr (mOwn 4 fAppend (mArgs [(mVar 7)])))) sNext) (l.map edD)
      [c, n, v, tkS (R.map kvD), .lst (R.map fun p => stD p.1), at_, .dat (stD s), z7, z8] = .nx [c, n, v, tkS ((addAll s R l).map kvD), .lst ((addAll s R l).map fun p => stD p.1), at_, .dat (stD s), y7, y8]
  | [], R, z7, z8, _ => ⟨z7, z8, rfl⟩
  | p :: l, R, z7, z8, hz => by
    rw [List.length_cons] at hz
    have hlen := addOne_len s R p
    obtain ⟨y7, y8, ih⟩ := loop_add s c n v at_ l (addOne s R p) (.dat (stD p.1)) (.dat (nD p.2)) (by omega)
    refine ⟨y7, y8, ?_⟩
    have hg : tgT 2 (tgCons (tgN 7) (tgCons (tgN 8) tgNil)) (edD p) [c, n, v, tkS (R.map kvD), .lst (R.map fun p => stD p.1), at_, .dat (stD s), z7, z8] = .ok () [c, n, v, tkS (R.map kvD), .lst (R.map fun p => stD p.1), at_, .dat (stD s), .dat (stD p.1), .dat (nD p.2)] := rfl
    have hb : (sIf (mTest (mTkNotIn 3 (mVar 7))) (sSeq (sAsgG (tgTk 3 (mVar 7)) (mTup (mArgs [(mVar 6), (mVar 8)]))) (sExpr (mOwn 4 fAppend (mArgs [(mVar 7)])))) sNext) [c, n, v, tkS (R.map kvD), .lst (R.map fun p => stD p.1), at_, .dat (stD s), .dat (stD p.1), .dat (nD p.2)] =
        .nx [c, n, v, tkS ((addOne s R p).map kvD), .lst ((addOne s R p).map fun p => stD p.1), at_, .dat (stD s), .dat (stD p.1), .dat (nD p.2)] := by
      have hin : mTkNotIn (ρ := ρ) 3 (mVar 7) [c, n, v, tkS (R.map kvD), .lst (R.map fun p => stD p.1), at_, .dat (stD s), .dat (stD p.1), .dat (nD p.2)] = .ok (.dat (.bl (!(look R p.1).isSome))) [c, n, v, tkS (R.map kvD), .lst (R.map fun p => stD p.1), at_, .dat (stD s), .dat (stD p.1), .dat (nD p.2)] := by
        unfold mTkNotIn
        simp [tkOf_tk, key_st, tkGet_kv]
      by_cases hm : p.1 ∈ R.map (·.1)
      · have hl : (look R p.1).isSome = true := by
          cases hl : look R p.1 with
          | none => exact absurd hm (look_none.mp hl)
          | some e => rfl
        unfold addOne
        rw [if_pos hm]
        simp [hin, hl]
      · have hl := look_none.mpr hm
        have hp : tkPut (R.map kvD) (stD p.1) (keyOf p.1) (.tup [stD s, nD p.2]) = (R ++ [(p.1, some (s, p.2))]).map kvD := by
          unfold tkPut
          rw [tkGet_kv, hl, List.map_append]
          rfl
        have h1 : R.length < 16777216 := by omega
        unfold addOne
        rw [if_neg hm]
        simp [hin, hl, tgTk, tkOf_tk, key_st, sizeLine_eq, h1, hp, mOwn_ev, fAppend]
    rw [List.map_cons, forL_cons, hg, Rs.thenS_ok, hb]
    exact ih
/-! ### the search goes on -/
structure Pre (cs : List Call) (nums : List Nat) (v0 : Int) (U : List Sta) (R : Rch) : Prop where
  nd : (R.map (·.1)).Nodup
  z : R[0]? = some ((nums, v0), none)
  back : ∀ j s e, R[j]? = some (s, e) → (j = 0 ∧ e = none) ∨ ∃ p k j' f, e = some (p, k) ∧ j' < j ∧ R[j']? = some (p, f) ∧ (s, k) ∈ succ cs p
  uni : ∀ s ∈ R.map (·.1), s ∈ U
variable {nums : List Nat} {v0 : Int} {U : List Sta}
theorem Pre.add {R : Rch} (h : Pre cs nums v0 U R) {i : Nat} {s : Sta} {e : Option (Sta × Nat)} (hi : R[i]? = some (s, e)) {p : Sta × Nat} (hp : p ∈ succ cs s) (hu : p.1 ∈ U) :
    Pre cs nums v0 U (addOne s R p) ∧ (∀ (j : Nat) x, R[j]? = some x → (addOne s R p)[j]? = some x) ∧ p.1 ∈ (addOne s R p).map (·.1) := by
  unfold addOne
  by_cases hm : p.1 ∈ R.map (·.1)
  · rw [if_pos hm]
    exact ⟨h, fun _ _ z => z, hm⟩
  · rw [if_neg hm]
    have pre : ∀ (j : Nat) x, R[j]? = some x → (R ++ [(p.1, some (s, p.2))])[j]? = some x := fun j x hx => by
      rw [List.getElem?_append_left (List.getElem?_eq_some_iff.mp hx).1]; exact hx
    refine ⟨⟨?_, pre _ _ h.z, fun j t f hj => ?_, fun t ht => ?_⟩, pre, by simp⟩
    · rw [List.map_append, List.nodup_append]
      refine ⟨h.nd, by simp, fun a ha b hb => ?_⟩
      simp at hb
      rw [hb]
      intro z
      exact hm (z ▸ ha)
    · by_cases hlt : j < R.length
      · rw [List.getElem?_append_left hlt] at hj
        rcases h.back j t f hj with z | ⟨q, k, j', f', h1, h2, h3, h4⟩
        · exact .inl z
        · exact .inr ⟨q, k, j', f', h1, h2, pre _ _ h3, h4⟩
      · have hil : i < R.length := (List.getElem?_eq_some_iff.mp hi).1
        rw [List.getElem?_append_right (by omega)] at hj
        have hj0 : j - R.length = 0 := by
          cases z : j - R.length with
          | zero => rfl
          | succ m => rw [z] at hj; simp at hj
        rw [hj0] at hj
        simp at hj
        obtain ⟨rfl, rfl⟩ := hj
        exact .inr ⟨s, p.2, i, e, rfl, by omega, pre _ _ hi, hp⟩
    · rw [List.map_append] at ht
      rcases List.mem_append.mp ht with h1 | h1
      · exact h.uni t h1
      · simp at h1; rw [h1]; exact hu
theorem Pre.addAll {s : Sta} : ∀ (l : List (Sta × Nat)) {R : Rch}, Pre cs nums v0 U R → ∀ {i : Nat} {e : Option (Sta × Nat)}, R[i]? = some (s, e) → (∀ p ∈ l, p ∈ succ cs s ∧ p.1 ∈ U) →
    Pre cs nums v0 U (addAll s R l) ∧ (∀ (j : Nat) x, R[j]? = some x → (K74.addAll s R l)[j]? = some x) ∧ ∀ p ∈ l, p.1 ∈ (K74.addAll s R l).map (·.1)
  | [], R, h, i, e, hi, _ => ⟨h, fun _ _ z => z, fun p hp => (by cases hp)⟩
  | p :: l, R, h, i, e, hi, hl => by
    obtain ⟨h1, h2, h3⟩ := h.add hi (hl p List.mem_cons_self).1 (hl p List.mem_cons_self).2
    obtain ⟨k1, k2, k3⟩ := Pre.addAll l h1 (h2 _ _ hi) fun q hq => hl q (List.mem_cons_of_mem _ hq)
    refine ⟨k1, fun j x z => k2 j x (h2 j x z), fun q hq => ?_⟩
    rcases List.mem_cons.mp hq with rfl | hq
    · obtain ⟨y, hy, ey⟩ := List.mem_map.mp h3
      obtain ⟨j, hj⟩ := List.mem_iff_getElem?.mp hy
      exact List.mem_map.mpr ⟨y, List.mem_of_getElem? (k2 j y hj), ey⟩
    · exact k3 q hq
theorem Srch.next {R : Rch} {i : Nat} (h : Srch cs nums v0 U R i) {s : Sta} {e : Option (Sta × Nat)} (hi : R[i]? = some (s, e)) (hs : s.1 ≠ []) (hu : ∀ q ∈ succ cs s, q.1 ∈ U) : Srch cs nums v0 U (addAll s R (succ cs s)) (i + 1) := by
  obtain ⟨k1, k2, k3⟩ := Pre.addAll (succ cs s) (⟨h.nd, h.z, h.back, h.uni⟩ : Pre cs nums v0 U R) hi fun p hp => ⟨hp, hu p hp⟩
  have hil : i < R.length := (List.getElem?_eq_some_iff.mp hi).1
  refine ⟨k1.nd, k1.z, k1.back, fun j t f hj hjt => ?_, k1.uni, ?_⟩
  · obtain ⟨x, hx⟩ : ∃ x, R[j]? = some x := ⟨_, List.getElem?_eq_getElem (by omega)⟩
    have := k2 j x hx
    rw [hjt] at this
    cases this
    by_cases hji : j = i
    · subst hji
      rw [hi] at hx
      cases hx
      exact ⟨hs, k3⟩
    · obtain ⟨d1, d2⟩ := h.done j t f (by omega) hx
      refine ⟨d1, fun q hq => ?_⟩
      obtain ⟨y, hy, ey⟩ := List.mem_map.mp (d2 q hq)
      obtain ⟨m, hm⟩ := List.mem_iff_getElem?.mp hy
      exact List.mem_map.mpr ⟨y, List.mem_of_getElem? (k2 m y hm), ey⟩
  · have := k2 i _ hi
    have := (List.getElem?_eq_some_iff.mp this).1
    omega
theorem Srch.closed {R : Rch} (h : Srch cs nums v0 U R R.length) {s t : Sta} {row : List Nat} (hp : Path cs s row t) (hs : s ∈ R.map (·.1)) : t ∈ R.map (·.1) := by
  induction hp with
  | nil => exact hs
  | cons h1 _ ih =>
    refine ih ?_
    obtain ⟨⟨s', e⟩, hy, rfl⟩ := List.mem_map.mp hs
    obtain ⟨j, hj⟩ := List.mem_iff_getElem?.mp hy
    exact (h.done j _ _ (List.getElem?_eq_some_iff.mp hj).1 hj).2 _ h1
theorem peek_len {i : Nat} {xs : List D} {env : Env ρ} (h : env[i]? = some (.lst xs)) : mPeek i (mBlt dLen (mArgs [mVar i])) env = .ok (.dat (.int xs.length)) env := by
  have e : (peekEnv i env)[i]? = some (.dat (.lst xs)) := by
    unfold peekEnv
    rw [List.getElem?_mapIdx, h]
    show some (if i = i then SV.dat (.lst xs) else .no) = _
    rw [if_pos rfl]
  unfold mPeek
  rw [h]
  dsimp only
  have e2 : mBlt dLen (mArgs [mVar i]) (peekEnv i env) = .ok (.dat (.int xs.length)) (peekEnv i env) := by simp [e]
  rw [e2]
  rfl
structure Uni (cs : List Call) (nums : List Nat) (v0 : Int) (U : List Sta) : Prop where
  m : (nums, v0) ∈ U
  c : ∀ s ∈ U, ∀ q ∈ succ cs s, q.1 ∈ U
  w : ∀ s ∈ U, (∀ j ∈ s.1, j < cs.length) ∧ s.1.length ≤ 1000
  n : U.length ≤ 5000
def Found (cs : List Call) (nums : List Nat) (v0 : Int) (res : D) : Prop := (∃ row v, res = rowD row ∧ Path cs (nums, v0) row ([], v)) ∨ (res = .non ∧ ∀ row v, ¬ Path cs (nums, v0) row ([], v))
theorem r_order_at (hU : Uni cs nums v0 U) : ∃ res, m_order_at (ρ := ρ) [.dat (.tup (cs.map Call.D)), .dat (.lst (nums.map nD)), .dat (.int v0)] = .ok (.dat res) [.no, .no, .no] ∧ Found cs nums v0 res := by
  have hk0 := key_st (nums, v0)
  have hst : stD (nums, v0) = .tup [.tup (nums.map nD), .int v0] := rfl
  rw [hst] at hk0
  simp [m_order_at, mFn_ev, sizeLine_eq, mTkDisp, mTkList, hk0, tkOf_tk]
  refine whileN_rule (Post := fun r => ∃ res, fnEnd [] 3 (r.andThen _) = Rs.ok (SV.dat res) [.no, .no, .no] ∧ Found cs nums v0 res) (σ := Rch × Nat)
    (R := fun (x : Rch × Nat) env => (∃ z6 z7 z8, env = [.dat (.tup (cs.map Call.D)), .dat (.lst (nums.map nD)), .dat (.int v0), tkS (x.1.map kvD), .lst (x.1.map fun p => stD p.1), .dat (.int (x.2 : Int)), z6, z7, z8]) ∧ Srch cs nums v0 U x.1 x.2) (fun x => U.length - x.2) ?_ 100000 ([((nums, v0), none)], 0) _ ⟨⟨_, _, _, rfl⟩, ?_⟩ ?_
  · rintro ⟨R, i⟩ env ⟨⟨z6, z7, z8, rfl⟩, h⟩
    dsimp only at h ⊢
    have hn := hU.n
    have hR := h.small
    have hpk := peek_len (ρ := ρ) (i := 4) (xs := R.map fun p => stD p.1) (env := [.dat (.tup (cs.map Call.D)), .dat (.lst (nums.map nD)), .dat (.int v0), tkS (R.map kvD), .lst (R.map fun p => stD p.1), .dat (.int (i : Int)), z6, z7, z8]) rfl
    by_cases hlt : i < R.length
    · obtain ⟨⟨s, e⟩, hse⟩ : ∃ x, R[i]? = some x := ⟨_, List.getElem?_eq_getElem hlt⟩
      have hsU : s ∈ U := h.uni s (List.mem_map.mpr ⟨_, List.mem_of_getElem? hse, rfl⟩)
      have hix : atI (R.map fun p => stD p.1) (i : Int) = some (stD s) := atI_at (by rw [List.getElem?_map, hse]; rfl)
      refine .inr ⟨_, by simp [hpk, hlt]; rfl, ?_⟩
      by_cases hs0 : s.1 = []
      · obtain ⟨row, hrow, hpath⟩ := r_row_to (ρ := ρ) h hn hse
        refine .inr ⟨.dat (rowD row), [.dat (.tup (cs.map Call.D)), .dat (.lst (nums.map nD)), .dat (.int v0), tkS (R.map kvD), .lst (R.map fun p => stD p.1), .dat (.int (i : Int)), .dat (stD s), z7, z8], ?_, rowD row, by simp, .inl ⟨row, s.2, rfl, ?_⟩⟩
        · have h0 : dIx (ρ := ρ) (stD s) (.int 0) = some (.dat (.tup [])) := by simp [stD, rowD, hs0]
          have hd : dEq (ρ := ρ) (.tup []) (.tup []) = some (.dat (.bl true)) := dEq_sm rfl rfl
          simp [hix, h0, hd, sizeLine_eq, akVals_io, hrow, -dIx_tup]
        · have : s = ([], s.2) := by rw [← hs0]
          rw [← this]; exact hpath
      · refine .inl ?_
        have hw := hU.w s hsU
        have hns := r_next_states (ρ := ρ) s hw.1 hw.2
        have hlen : R.length + (succ cs s).length ≤ 10000000 := by
          have : (succ cs s).length ≤ s.1.length := by
            unfold succ; rw [List.length_map]; exact List.length_filter_le _ _
          omega
        obtain ⟨y7, y8, hl⟩ := loop_add (ρ := ρ) s (.dat (.tup (cs.map Call.D))) (.dat (.lst (nums.map nD))) (.dat (.int v0)) (.dat (.int (i : Int))) (succ cs s) R z7 z8 hlen
        refine ⟨(addAll s R (succ cs s), i + 1), [.dat (.tup (cs.map Call.D)), .dat (.lst (nums.map nD)), .dat (.int v0), tkS ((addAll s R (succ cs s)).map kvD), .lst ((addAll s R (succ cs s)).map fun p => stD p.1), .dat (.int ((i + 1 : Nat) : Int)), .dat (stD s), y7, y8], ?_, ⟨⟨_, _, _, rfl⟩, h.next hse hs0 fun q hq => hU.c s hsU q hq⟩, ?_⟩
        · have h0 : dIx (ρ := ρ) (stD s) (.int 0) = some (.dat (rowD s.1)) := by simp [stD]
          have hd : dEq (ρ := ρ) (rowD s.1) (.tup []) = some (.dat (.bl false)) := by
            show dEq (.tup (s.1.map nD)) (.tup []) = _
            rw [dEq_sm (sm_row 63 s.1) rfl]
            cases hz : s.1 with
            | nil => exact absurd hz hs0
            | cons k r => rfl
          simp [hix, h0, hd, sizeLine_eq, hns, hl, -dIx_tup]
        · show U.length - (i + 1) < U.length - i
          omega
    · refine .inl ⟨_, by simp [hpk, hlt]; rfl, .non, by simp, .inr ⟨rfl, fun row v hp => ?_⟩⟩
      have hi : i = R.length := by have := h.le; omega
      subst hi
      have hm := h.closed hp (List.mem_map.mpr ⟨_, List.mem_of_getElem? h.z, rfl⟩)
      obtain ⟨⟨s', e⟩, hy, e2⟩ := List.mem_map.mp hm
      obtain ⟨j, hj⟩ := List.mem_iff_getElem?.mp hy
      have := (h.done j _ _ (List.getElem?_eq_some_iff.mp hj).1 hj).1
      rw [show s' = ([], v) from e2] at this
      exact this rfl
  · refine ⟨by simp, rfl, fun j s e hj => ?_, fun j s e hj => absurd hj (Nat.not_lt_zero _), fun s hs => ?_, Nat.zero_le _⟩
    · cases j with
      | zero => simp at hj; exact .inl ⟨rfl, hj.2.symm⟩
      | succ j => simp at hj
    · simp at hs; rw [hs]; exact hU.m
  · show U.length - 0 < 100000
    have := hU.n
    omega
end K74
set_option Elab.async false
set_option linter.all false
set_option maxRecDepth 100000
set_option maxHeartbeats 4000000
namespace K74
open PySem PySem.Spec L2 Mir
variable {ρ : Type} [Rsc ρ] [HasD ρ] {bs : List Int} {cs : List Call}

/-! ### paths are orders -/
def chain (cs : List Call) : Int → List Nat → Prop
  | _, [] => True
  | v, k :: r => (at_ cs k).ans = v ∧ chain cs ((at_ cs k).deed.act v) r
theorem perm_filter {left r : List Nat} {k : Nat} (hn : left.Nodup) (h : left.Perm (k :: r)) : (left.filter fun j => decide (j ≠ k)).Perm r := by
  have h1 := h.filter fun j => decide (j ≠ k)
  have hk : k ∉ r := (List.nodup_cons.mp (h.nodup_iff.mp hn)).1
  rw [List.filter_cons_of_neg (by simp)] at h1
  have e : r.filter (fun j => decide (j ≠ k)) = r := List.filter_eq_self.mpr fun j hj => by
    rw [decide_eq_true_eq]; intro z; exact hk (z ▸ hj)
  rw [e] at h1
  exact h1
theorem mem_succ {s : Sta} {q : Sta × Nat} : q ∈ succ cs s ↔ ∃ k, k ∈ s.1 ∧ mayNext cs s.1 k s.2 = true ∧ q = ((s.1.filter fun j => decide (j ≠ k), (at_ cs k).deed.act s.2), k) := by
  unfold succ
  rw [List.mem_map]
  constructor
  · rintro ⟨k, hk, rfl⟩
    obtain ⟨h1, h2⟩ := List.mem_filter.mp hk
    exact ⟨k, h1, h2, rfl⟩
  · rintro ⟨k, h1, h2, rfl⟩
    exact ⟨k, List.mem_filter.mpr ⟨h1, h2⟩, rfl⟩
theorem mayNext_iff {left : List Nat} {k : Nat} {v : Int} : mayNext cs left k v = true ↔ (at_ cs k).ans = v ∧ ∀ j ∈ left, ¬ (at_ cs j).fin < (at_ cs k).beg := by
  unfold mayNext
  rw [Bool.and_eq_true, decide_eq_true_eq, Bool.not_eq_true', List.any_eq_false]
  simp
theorem path_good : ∀ {row : List Nat} {left : List Nat} {v v' : Int}, left.Nodup → Path cs (left, v) row ([], v') → row.Perm left ∧ Keeps cs row ∧ chain cs v row
  | [], left, v, v', _, h => by
    cases h
    exact ⟨.refl _, List.Pairwise.nil, trivial⟩
  | k :: r, left, v, v', hn, h => by
    cases h with
    | cons h1 h2 =>
      obtain ⟨k', hk, hm, e⟩ := mem_succ.mp h1
      cases e
      obtain ⟨m1, m2⟩ := mayNext_iff.mp hm
      obtain ⟨p1, p2, p3⟩ := path_good (hn.filter _) h2
      have hp : (k :: r).Perm left := by
        have h3 := (p1.cons k)
        refine h3.trans ?_
        have e2 : left.erase k = left.filter fun j => decide (j ≠ k) := by
          rw [hn.erase_eq_filter]
          congr 1
          funext j
          by_cases z : j = k <;> simp [z]
        rw [← e2]
        exact (List.perm_cons_erase hk).symm
      refine ⟨hp, List.pairwise_cons.mpr ⟨fun j hj => m2 j (hp.mem_iff.mp (List.mem_cons_of_mem _ hj)), p2⟩, m1, p3⟩
theorem good_path (hok : ∀ k, k < cs.length → ¬ (at_ cs k).fin < (at_ cs k).beg) : ∀ {row : List Nat} {left : List Nat} {v : Int}, left.Nodup → (∀ k ∈ row, k < cs.length) → row.Perm left → Keeps cs row → chain cs v row → ∃ v', Path cs (left, v) row ([], v')
  | [], left, v, _, _, hp, _, _ => by
    have : left = [] := List.nil_perm.mp hp
    subst this
    exact ⟨v, .nil _⟩
  | k :: r, left, v, hn, hr, hp, hk, hc => by
    obtain ⟨k1, k2⟩ := List.pairwise_cons.mp hk
    obtain ⟨c1, c2⟩ := hc
    obtain ⟨v', hv⟩ := good_path hok (hn.filter fun j => decide (j ≠ k)) (fun j hj => hr j (List.mem_cons_of_mem _ hj)) (perm_filter hn hp.symm).symm k2 c2
    refine ⟨v', .cons (mem_succ.mpr ⟨k, hp.mem_iff.mp List.mem_cons_self, mayNext_iff.mpr ⟨c1, fun j hj => ?_⟩, rfl⟩) hv⟩
    rcases List.mem_cons.mp (hp.mem_iff.mpr hj) with rfl | hj
    · exact hok _ (hr _ List.mem_cons_self)
    · exact k1 j hj
/-! ### all states -/
def subs : List Nat → List (List Nat)
  | [] => [[]]
  | x :: xs => subs xs ++ (subs xs).map (x :: ·)
theorem subs_len : ∀ xs : List Nat, (subs xs).length = 2 ^ xs.length
  | [] => rfl
  | x :: xs => by
    show (subs xs ++ (subs xs).map (x :: ·)).length = _
    rw [List.length_append, List.length_map, subs_len xs, List.length_cons, Nat.pow_succ]; omega
theorem subs_self : ∀ xs : List Nat, xs ∈ subs xs
  | [] => List.mem_singleton.mpr rfl
  | x :: xs => List.mem_append.mpr (.inr (List.mem_map_of_mem (subs_self xs)))
theorem subs_filter (p : Nat → Bool) : ∀ {xs l : List Nat}, l ∈ subs xs → l.filter p ∈ subs xs
  | [], l, h => by
    rw [List.mem_singleton.mp h]; exact List.mem_singleton.mpr rfl
  | x :: xs, l, h => by
    rcases List.mem_append.mp h with h | h
    · exact List.mem_append.mpr (.inl (subs_filter p h))
    · obtain ⟨r, hr, rfl⟩ := List.mem_map.mp h
      have ih := subs_filter p hr
      by_cases hx : p x = true
      · rw [List.filter_cons_of_pos hx]
        exact List.mem_append.mpr (.inr (List.mem_map_of_mem ih))
      · rw [List.filter_cons_of_neg hx]
        exact List.mem_append.mpr (.inl ih)
theorem subs_sub : ∀ {xs l : List Nat}, l ∈ subs xs → (∀ k ∈ l, k ∈ xs) ∧ l.length ≤ xs.length
  | [], l, h => by
    rw [List.mem_singleton.mp h]; exact ⟨fun _ h => h, Nat.le_refl _⟩
  | x :: xs, l, h => by
    rcases List.mem_append.mp h with h | h
    · obtain ⟨h1, h2⟩ := subs_sub h
      exact ⟨fun k hk => List.mem_cons_of_mem _ (h1 k hk), by rw [List.length_cons]; omega⟩
    · obtain ⟨r, hr, rfl⟩ := List.mem_map.mp h
      obtain ⟨h1, h2⟩ := subs_sub hr
      refine ⟨fun k hk => ?_, by rw [List.length_cons, List.length_cons]; omega⟩
      rcases List.mem_cons.mp hk with rfl | hk
      · exact List.mem_cons_self
      · exact List.mem_cons_of_mem _ (h1 k hk)
def states (cs : List Call) (nums : List Nat) (v0 : Int) : List Sta := ((subs nums).map fun l => (v0 :: nums.map fun k => (at_ cs k).deed.act (at_ cs k).ans).map fun v => (l, v)).flatten
theorem len_flat {α β : Type} {n : Nat} {f : α → List β} (h : ∀ x, (f x).length = n) : ∀ xs : List α, (xs.map f).flatten.length = xs.length * n
  | [] => by simp
  | x :: xs => by rw [List.map_cons, List.flatten_cons, List.length_append, h, len_flat h xs, List.length_cons, Nat.add_mul]; omega
theorem mem_states {nums : List Nat} {v0 : Int} {s : Sta} : s ∈ states cs nums v0 ↔ s.1 ∈ subs nums ∧ s.2 ∈ (v0 :: nums.map fun k => (at_ cs k).deed.act (at_ cs k).ans) := by
  unfold states
  rw [List.mem_flatten]
  constructor
  · rintro ⟨l, h1, h2⟩
    obtain ⟨r, hr, rfl⟩ := List.mem_map.mp h1
    obtain ⟨v, hv, rfl⟩ := List.mem_map.mp h2
    exact ⟨hr, hv⟩
  · rintro ⟨h1, h2⟩
    exact ⟨_, List.mem_map_of_mem h1, List.mem_map.mpr ⟨s.2, h2, rfl⟩⟩
theorem uni_states {nums : List Nat} (v0 : Int) (h : ∀ k ∈ nums, k < cs.length) (h8 : nums.length ≤ 8) : Uni cs nums v0 (states cs nums v0) where
  m := mem_states.mpr ⟨subs_self _, List.mem_cons_self⟩
  c := fun s hs q hq => by
    obtain ⟨h1, h2⟩ := mem_states.mp hs
    obtain ⟨k, hk, hm, rfl⟩ := mem_succ.mp hq
    obtain ⟨m1, _⟩ := mayNext_iff.mp hm
    refine mem_states.mpr ⟨subs_filter _ h1, List.mem_cons_of_mem _ (List.mem_map.mpr ⟨k, (subs_sub h1).1 k hk, ?_⟩)⟩
    show (at_ cs k).deed.act (at_ cs k).ans = (at_ cs k).deed.act s.2
    rw [m1]
  w := fun s hs => by
    obtain ⟨h1, h2⟩ := mem_states.mp hs
    obtain ⟨s1, s2⟩ := subs_sub h1
    exact ⟨fun j hj => h j (s1 j hj), by omega⟩
  n := by
    unfold states
    rw [len_flat (n := nums.length + 1) (fun l => by rw [List.length_map, List.length_cons, List.length_map]), subs_len]
    have h1 : 2 ^ nums.length ≤ 2 ^ 8 := Nat.pow_le_pow_right (by decide) h8
    calc 2 ^ nums.length * (nums.length + 1) ≤ 2 ^ 8 * 9 := Nat.mul_le_mul h1 (by omega)
      _ ≤ 5000 := by decide
end K74
set_option Elab.async false
set_option linter.all false
set_option maxRecDepth 100000
set_option maxHeartbeats 4000000
namespace K74
open PySem PySem.Spec L2 Mir
variable {ρ : Type} [Rsc ρ] [HasD ρ] {bs : List Int} {cs : List Call}

/-! ### a row, box by box -/
def inBox (cs : List Call) (b : Nat) (k : Nat) : Bool := decide ((at_ cs k).box = (b : Int))
theorem numsAt_eq (cs : List Call) (b : Nat) : numsAt cs (b : Int) = (List.range cs.length).filter (inBox cs b) := by
  unfold numsAt
  have e : cs.zipIdx = (List.range cs.length).map fun k => (at_ cs k, k) := by
    apply List.ext_getElem?
    intro i
    rw [List.getElem?_zipIdx, List.getElem?_map]
    by_cases h : i < cs.length
    · rw [List.getElem?_range h, at_get h]; simp
    · rw [List.getElem?_eq_none (by omega), List.getElem?_eq_none (by rw [List.length_range]; omega)]; rfl
  rw [e, List.filter_map, List.map_map]
  have : ((List.range cs.length).filter ((fun p : Call × Nat => decide (p.1.box = (b : Int))) ∘ fun k => (at_ cs k, k))) = (List.range cs.length).filter (inBox cs b) := rfl
  rw [this]
  exact List.map_id _
theorem answers_gen (cs : List Call) : ∀ (row : List Nat) (vals : List Int), (∀ k ∈ row, 0 ≤ (at_ cs k).box ∧ (at_ cs k).box < vals.length) → ((row.foldlM (stpA cs) vals).isSome = true ↔ ∀ b, b < vals.length → chain cs (vals.getD b 0) (row.filter (inBox cs b)))
  | [], vals, _ => ⟨fun _ _ _ => trivial, fun _ => rfl⟩
  | k :: r, vals, hb => by
    obtain ⟨h0, h1⟩ := hb k List.mem_cons_self
    obtain ⟨b0, e0⟩ : ∃ b0 : Nat, (at_ cs k).box = (b0 : Int) := ⟨(at_ cs k).box.toNat, by omega⟩
    have hlt : b0 < vals.length := by omega
    have hin : inBox cs b0 k = true := by unfold inBox; rw [e0]; simp
    have hout : ∀ b, b ≠ b0 → inBox cs b k = false := fun b hne => by unfold inBox; rw [e0]; simp; omega
    rw [List.foldlM_cons]
    unfold stpA
    rw [e0, Int.toNat_natCast]
    by_cases hc : vals.getD b0 0 = (at_ cs k).ans
    · rw [if_pos hc]
      show (r.foldlM (stpA cs) (vals.set b0 ((at_ cs k).deed.act (at_ cs k).ans))).isSome = true ↔ _
      rw [answers_gen cs r _ (fun j hj => by rw [List.length_set]; exact hb j (List.mem_cons_of_mem _ hj)), List.length_set]
      have g0 : (vals.set b0 ((at_ cs k).deed.act (at_ cs k).ans)).getD b0 0 = (at_ cs k).deed.act (at_ cs k).ans := by
        rw [List.getD_eq_getElem?_getD, List.getElem?_set_self hlt]; rfl
      have g1 : ∀ b, b ≠ b0 → (vals.set b0 ((at_ cs k).deed.act (at_ cs k).ans)).getD b 0 = vals.getD b 0 := fun b hne => by
        rw [List.getD_eq_getElem?_getD, List.getElem?_set_ne (Ne.symm hne), List.getD_eq_getElem?_getD]
      constructor
      · intro h b hbl
        by_cases hbb : b = b0
        · subst hbb
          rw [List.filter_cons_of_pos hin]
          refine ⟨hc.symm, ?_⟩
          have := h b hbl
          rw [g0] at this
          rw [hc]; exact this
        · rw [List.filter_cons_of_neg (by rw [hout b hbb]; exact Bool.false_ne_true)]
          have := h b hbl
          rwa [g1 b hbb] at this
      · intro h b hbl
        by_cases hbb : b = b0
        · subst hbb
          have := h b hbl
          rw [List.filter_cons_of_pos hin] at this
          rw [g0, ← hc]; exact this.2
        · have := h b hbl
          rw [List.filter_cons_of_neg (by rw [hout b hbb]; exact Bool.false_ne_true)] at this
          rw [g1 b hbb]; exact this
    · rw [if_neg hc]
      constructor
      · intro h; cases h
      · intro h
        have := h b0 hlt
        rw [List.filter_cons_of_pos hin] at this
        exact absurd this.1.symm hc
/-- an order that fits -/
def Good (bs : List Int) (cs : List Call) (row : List Nat) : Prop := row.Perm (List.range cs.length) ∧ Keeps cs row ∧ ∀ b, b < bs.length → chain cs (bs.getD b 0) (row.filter (inBox cs b))
theorem lawFits_iff (h : WF bs cs) {row : List Nat} (hp : row.Perm (List.range cs.length)) : lawFits bs cs row = true ↔ Good bs cs row := by
  unfold lawFits answersA Good
  rw [Bool.and_eq_true, decide_eq_true_eq, answers_gen cs row bs fun k hk => h.box (List.mem_range.mp (hp.mem_iff.mp hk))]
  exact ⟨fun ⟨a, b⟩ => ⟨hp, a, b⟩, fun ⟨_, a, b⟩ => ⟨a, b⟩⟩
/-- an order of one box's calls -/
def GoodBox (bs : List Int) (cs : List Call) (b : Nat) (r : List Nat) : Prop := r.Perm (numsAt cs (b : Int)) ∧ Keeps cs r ∧ chain cs (bs.getD b 0) r
theorem Good.box {row : List Nat} (h : Good bs cs row) {b : Nat} (hb : b < bs.length) : GoodBox bs cs b (row.filter (inBox cs b)) :=
  ⟨by rw [numsAt_eq]; exact h.1.filter _, h.2.1.filter _, h.2.2 b hb⟩
theorem nums_nodup (cs : List Call) (b : Nat) : (numsAt cs (b : Int)).Nodup := by rw [numsAt_eq]; exact List.nodup_range.filter _
theorem nums_lt {b k : Nat} (h : k ∈ numsAt cs (b : Int)) : k < cs.length := by
  rw [numsAt_eq] at h
  exact List.mem_range.mp (List.mem_filter.mp h).1
theorem WF.no_self (h : WF bs cs) (k : Nat) (hk : k < cs.length) : ¬ (at_ cs k).fin < (at_ cs k).beg := by
  have := h.at_ok hk
  unfold Call.ok at this
  simp only [Bool.and_eq_true, decide_eq_true_eq] at this
  omega
/-- what the search finds -/
theorem found_box (h : WF bs cs) {b : Nat} {res : D} (hf : Found cs (numsAt cs (b : Int)) (bs.getD b 0) res) : (∃ r, res = rowD r ∧ GoodBox bs cs b r) ∨ (res = .non ∧ ∀ r, ¬ GoodBox bs cs b r) := by
  rcases hf with ⟨row, v, e, hp⟩ | ⟨e, hn⟩
  · exact .inl ⟨row, e, path_good (nums_nodup cs b) hp⟩
  · refine .inr ⟨e, fun r hr => ?_⟩
    obtain ⟨v', hv⟩ := good_path h.no_self (nums_nodup cs b) (fun k hk => nums_lt (hr.1.mem_iff.mp hk)) hr.1 hr.2.1 hr.2.2
    exact hn r v' hv
theorem r_box_orders (h : WF bs cs) : ∃ f : Nat → D, m_box_orders (ρ := ρ) [.dat (.tup (bs.map .int)), .dat (.tup (cs.map Call.D))] = .ok (.lst ((List.range bs.length).map f)) [.no, .no] ∧ ∀ b, b < bs.length → (∃ r, f b = rowD r ∧ GoodBox bs cs b r) ∨ (f b = .non ∧ ∀ r, ¬ GoodBox bs cs b r) := by
  have key : ∀ b : Nat, ∃ res, b < bs.length → m_order_at (ρ := ρ) [.dat (.tup (cs.map Call.D)), .dat (.lst ((numsAt cs (b : Int)).map nD)), .dat (.int (bs.getD b 0))] = .ok (.dat res) [.no, .no, .no] ∧ Found cs (numsAt cs (b : Int)) (bs.getD b 0) res := fun b => by
    by_cases hb : b < bs.length
    · obtain ⟨res, h1, h2⟩ := r_order_at (ρ := ρ) (uni_states (cs := cs) (nums := numsAt cs (b : Int)) (bs.getD b 0) (fun k hk => nums_lt hk) (h.few b hb))
      exact ⟨res, fun _ => ⟨h1, h2⟩⟩
    · exact ⟨.non, fun z => absurd z hb⟩
  obtain ⟨f, hf⟩ := Classical.axiomOfChoice key
  refine ⟨f, ?_, fun b hb => found_box h (hf b hb).2⟩
  have e : (bs.zipIdx.map fun p => f p.2) = (List.range bs.length).map f := by
    apply List.ext_getElem?
    intro i
    rw [List.getElem?_map, List.getElem?_zipIdx, List.getElem?_map]
    by_cases hi : i < bs.length
    · rw [List.getElem?_range hi, List.getElem?_eq_getElem hi]; simp
    · rw [List.getElem?_eq_none (by omega), List.getElem?_eq_none (by rw [List.length_range]; omega)]; rfl
  have hc := comp_all (ρ := ρ) (src := srcEnum (mVar 0)) (g := tgT 2 (tgCons (tgN 2) (tgCons (tgN 3) tgNil))) (me := mCall m_order_at [.e (mVar 1), .e (mCall m_numbers_at [.e (mVar 1), .e (mVar 2)]), .e (mVar 3)]) (vs := [2, 3])
    (enc := fun p : Int × Nat => pairD p.2 (.int p.1)) (f := fun p => f p.2) (env := [.dat (.tup (bs.map .int)), .dat (.tup (cs.map Call.D)), .no, .no]) (env1 := [.dat (.tup (bs.map .int)), .dat (.tup (cs.map Call.D)), .no, .no]) bs.zipIdx
    (by simp [enumD_map]) (by rw [List.length_zipIdx]; exact h.bz) fun p hp => ⟨[.dat (.tup (bs.map .int)), .dat (.tup (cs.map Call.D)), .dat (nD p.2), .dat (.int p.1)], rfl, rfl, by
      obtain ⟨v, b⟩ := p
      rw [List.mem_zipIdx_iff_getElem?] at hp
      have hb : b < bs.length := (List.getElem?_eq_some_iff.mp hp).1
      have hv : bs.getD b 0 = v := by rw [List.getD_eq_getElem?_getD, hp]; rfl
      have h1 := (hf b hb).1
      rw [hv] at h1
      have h2 : m_numbers_at (ρ := ρ) [.dat (.tup (cs.map Call.D)), .dat (nD b)] = .ok (.lst ((numsAt cs (b : Int)).map nD)) [.no, .no] := r_numbers_at _ _ h.cz
      simp [h1, h2]⟩
  rw [e] at hc
  simp only [m_box_orders, mFn_ev]
  simp [hc]
end K74
set_option Elab.async false
set_option linter.all false
set_option maxRecDepth 100000
set_option maxHeartbeats 4000000
namespace K74
open PySem PySem.Spec L2 Mir
variable {ρ : Type} [Rsc ρ] [HasD ρ] {bs : List Int} {cs : List Call}

/-! ### rows laid together -/
def fronts (nb : Nat) (F : Nat → List Nat) : List (List Nat) := ((List.range nb).map F).filter fun r => decide (r ≠ [])
theorem mem_fronts {nb : Nat} {F : Nat → List Nat} {r : List Nat} : r ∈ fronts nb F ↔ r ≠ [] ∧ ∃ b, b < nb ∧ F b = r := by
  unfold fronts
  rw [List.mem_filter, List.mem_map, decide_eq_true_eq]
  constructor
  · rintro ⟨⟨b, hb, e⟩, h⟩; exact ⟨h, b, List.mem_range.mp hb, e⟩
  · rintro ⟨h, b, hb, e⟩; exact ⟨⟨b, List.mem_range.mpr hb, e⟩, h⟩
theorem mem_left {nb : Nat} {F : Nat → List Nat} {j : Nat} : j ∈ (fronts nb F).flatten ↔ ∃ b, b < nb ∧ j ∈ F b := by
  rw [List.mem_flatten]
  constructor
  · rintro ⟨r, hr, hj⟩
    obtain ⟨_, b, hb, rfl⟩ := mem_fronts.mp hr
    exact ⟨b, hb, hj⟩
  · rintro ⟨b, hb, hj⟩
    exact ⟨F b, mem_fronts.mpr ⟨fun z => by rw [z] at hj; (cases hj), b, hb, rfl⟩, hj⟩
theorem fronts_filter (nb : Nat) (F : Nat → List Nat) (k : Nat) : ((fronts nb F).map fun r => r.filter fun j => decide (j ≠ k)).filter (fun r => decide (r ≠ [])) = fronts nb fun b => (F b).filter fun j => decide (j ≠ k) := by
  unfold fronts
  induction List.range nb with
  | nil => rfl
  | cons b l ih =>
    rw [List.map_cons, List.map_cons]
    by_cases h : F b = []
    · rw [List.filter_cons_of_neg (by simp [h]), List.filter_cons_of_neg (by simp [h])]
      exact ih
    · rw [List.filter_cons_of_pos (by simp [h]), List.map_cons]
      by_cases h2 : (F b).filter (fun j => decide (j ≠ k)) = []
      · rw [List.filter_cons_of_neg (by rw [h2]; simp), List.filter_cons_of_neg (by rw [h2]; simp)]
        exact ih
      · rw [List.filter_cons_of_pos (by rw [decide_eq_true_eq]; exact h2), List.filter_cons_of_pos (by rw [decide_eq_true_eq]; exact h2)]
        rw [ih]
structure Lay (bs : List Int) (cs : List Call) (rows : Nat → List Nat) (found : List Nat) (F : Nat → List Nat) : Prop where
  a : ∀ b, b < bs.length → rows b = found.filter (inBox cs b) ++ F b
  b : Keeps cs found
  c : ∀ f ∈ found, ∀ b, b < bs.length → ∀ j ∈ F b, ¬ (at_ cs j).fin < (at_ cs f).beg
  e : ∀ f ∈ found, f < cs.length
  n : found.Nodup
def heads (cs : List Call) (fr : List (List Nat)) : List Nat := (fr.filter fun r => !(fr.flatten.any fun j => decide ((at_ cs j).fin < (at_ cs (r.headD 0)).beg))).map fun r => r.headD 0
theorem exists_min {f : Nat → Int} : ∀ {l : List Nat}, l ≠ [] → ∃ j ∈ l, ∀ i ∈ l, f j ≤ f i
  | [], h => absurd rfl h
  | [x], _ => ⟨x, List.mem_singleton.mpr rfl, fun i hi => by rw [List.mem_singleton.mp hi]; exact Int.le_refl _⟩
  | x :: y :: l, _ => by
    obtain ⟨j, hj, hm⟩ := exists_min (f := f) (l := y :: l) (by simp)
    by_cases h : f x ≤ f j
    · refine ⟨x, List.mem_cons_self, fun i hi => ?_⟩
      rcases List.mem_cons.mp hi with rfl | hi
      · exact Int.le_refl _
      · exact Int.le_trans h (hm i hi)
    · refine ⟨j, List.mem_cons_of_mem _ hj, fun i hi => ?_⟩
      rcases List.mem_cons.mp hi with rfl | hi
      · omega
      · exact hm i hi
variable {rows F : Nat → List Nat} {found : List Nat}
theorem Lay.inb (h : Lay bs cs rows found F) (hg : ∀ b, b < bs.length → GoodBox bs cs b (rows b)) {b j : Nat} (hb : b < bs.length) (hj : j ∈ F b) : inBox cs b j = true ∧ j < cs.length := by
  have h1 : j ∈ rows b := by rw [h.a b hb]; exact List.mem_append.mpr (.inr hj)
  have h2 := (hg b hb).1.mem_iff.mp h1
  rw [numsAt_eq] at h2
  obtain ⟨h3, h4⟩ := List.mem_filter.mp h2
  exact ⟨h4, List.mem_range.mp h3⟩
theorem Lay.heads_ne (hw : WF bs cs) (h : Lay bs cs rows found F) (hg : ∀ b, b < bs.length → GoodBox bs cs b (rows b)) (hne : fronts bs.length F ≠ []) : ∃ k l, heads cs (fronts bs.length F) = k :: l ∧ ∃ b r, b < bs.length ∧ F b = k :: r ∧ ∀ i ∈ (fronts bs.length F).flatten, ¬ (at_ cs i).fin < (at_ cs k).beg := by
  have hfl : (fronts bs.length F).flatten ≠ [] := by
    obtain ⟨r, hr⟩ := List.exists_mem_of_ne_nil _ hne
    obtain ⟨h1, b, hb, e⟩ := mem_fronts.mp hr
    obtain ⟨j, hj⟩ := List.exists_mem_of_ne_nil _ h1
    intro z
    have : j ∈ (fronts bs.length F).flatten := mem_left.mpr ⟨b, hb, by rw [e]; exact hj⟩
    rw [z] at this
    cases this
  obtain ⟨j, hj, hm⟩ := exists_min (f := fun i => (at_ cs i).fin) hfl
  obtain ⟨b, hb, hjb⟩ := mem_left.mp hj
  have hex : ∃ k, k ∈ heads cs (fronts bs.length F) := by
    cases hF : F b with
    | nil => rw [hF] at hjb; cases hjb
    | cons x t =>
      refine ⟨x, List.mem_map.mpr ⟨x :: t, List.mem_filter.mpr ⟨mem_fronts.mpr ⟨by simp, b, hb, hF⟩, ?_⟩, rfl⟩⟩
      rw [Bool.not_eq_true', List.any_eq_false]
      intro i hi
      rw [decide_eq_true_eq]
      show ¬ (at_ cs i).fin < (at_ cs x).beg
      have h1 := hm i hi
      have h2 : ¬ (at_ cs j).fin < (at_ cs x).beg := by
        rw [hF] at hjb
        rcases List.mem_cons.mp hjb with rfl | hjt
        · exact hw.no_self _ (h.inb hg hb (by rw [hF]; exact List.mem_cons_self)).2
        · have hk := (hg b hb).2.1
          rw [h.a b hb, hF] at hk
          exact (List.pairwise_cons.mp (List.pairwise_append.mp hk).2.1).1 j hjt
      skip
      omega
  obtain ⟨k0, hk0⟩ := hex
  cases hh : heads cs (fronts bs.length F) with
  | nil => rw [hh] at hk0; cases hk0
  | cons k l =>
    refine ⟨k, l, rfl, ?_⟩
    have hk : k ∈ heads cs (fronts bs.length F) := by rw [hh]; exact List.mem_cons_self
    obtain ⟨r, hr, e⟩ := List.mem_map.mp hk
    obtain ⟨h1, h2⟩ := List.mem_filter.mp hr
    obtain ⟨h3, b', hb', hF'⟩ := mem_fronts.mp h1
    cases r with
    | nil => exact absurd rfl h3
    | cons x t =>
      have ex : x = k := e
      subst ex
      rw [Bool.not_eq_true', List.any_eq_false] at h2
      exact ⟨b', t, hb', hF', fun i hi => by simpa using h2 i hi⟩
theorem Lay.step (h : Lay bs cs rows found F) (hg : ∀ b, b < bs.length → GoodBox bs cs b (rows b)) {k b0 : Nat} {r : List Nat} (hb0 : b0 < bs.length) (hF : F b0 = k :: r) (hk : ∀ i ∈ (fronts bs.length F).flatten, ¬ (at_ cs i).fin < (at_ cs k).beg) :
    Lay bs cs rows (found ++ [k]) fun b => (F b).filter fun j => decide (j ≠ k) := by
  have hkF : k ∈ F b0 := by rw [hF]; exact List.mem_cons_self
  obtain ⟨hin, hkn⟩ := h.inb hg hb0 hkF
  have hnd : (rows b0).Nodup := (hg b0 hb0).1.nodup_iff.mpr (nums_nodup cs b0)
  rw [h.a b0 hb0, hF] at hnd
  obtain ⟨n1, n2, n3⟩ := List.nodup_append.mp hnd
  have hknf : k ∉ found := fun z => n3 k (List.mem_filter.mpr ⟨z, hin⟩) k List.mem_cons_self rfl
  have hother : ∀ b, b ≠ b0 → inBox cs b k = false := fun b hne => by
    have : (at_ cs k).box = (b0 : Int) := by unfold inBox at hin; simpa using hin
    unfold inBox
    rw [this]
    simp
    omega
  refine ⟨fun b hb => ?_, ?_, fun f hf b hb j hj => ?_, fun f hf => ?_, ?_⟩
  · rw [h.a b hb, List.filter_append]
    by_cases hbb : b = b0
    · subst hbb
      rw [hF, List.filter_cons_of_pos hin, List.filter_nil, List.filter_cons_of_neg (by simp), List.append_assoc]
      congr 1
      rw [List.singleton_append]
      congr 1
      exact (List.filter_eq_self.mpr fun j hj => by
        rw [decide_eq_true_eq]
        intro z
        exact (List.nodup_cons.mp n2).1 (z ▸ hj)).symm
    · rw [List.filter_cons_of_neg (by rw [hother b hbb]; exact Bool.false_ne_true), List.filter_nil, List.append_nil]
      congr 1
      exact (List.filter_eq_self.mpr fun j hj => by
        rw [decide_eq_true_eq]
        intro z
        have := (h.inb hg hb hj).1
        rw [z, hother b hbb] at this
        cases this).symm
  · refine List.pairwise_append.mpr ⟨h.b, List.pairwise_singleton _ _, fun f hf j hj => ?_⟩
    rw [List.mem_singleton.mp hj]
    exact h.c f hf b0 hb0 k hkF
  · have hj' := (List.mem_filter.mp hj).1
    rcases List.mem_append.mp hf with hf | hf
    · exact h.c f hf b hb j hj'
    · rw [List.mem_singleton.mp hf]
      exact hk j (mem_left.mpr ⟨b, hb, hj'⟩)
  · rcases List.mem_append.mp hf with hf | hf
    · exact h.e f hf
    · rw [List.mem_singleton.mp hf]; exact hkn
  · exact List.nodup_append.mpr ⟨h.n, by simp, fun x hx y hy => by rw [List.mem_singleton.mp hy]; intro z; exact hknf (z ▸ hx)⟩
theorem Lay.len (h : Lay bs cs rows found F) : found.length ≤ cs.length := by
  have := length_le_of_subset (ys := List.range cs.length) h.n fun f hf => List.mem_range.mpr (h.e f hf)
  rwa [List.length_range] at this
theorem Lay.good (hw : WF bs cs) (h : Lay bs cs rows found F) (hg : ∀ b, b < bs.length → GoodBox bs cs b (rows b)) (he : fronts bs.length F = []) : Good bs cs found := by
  have hF : ∀ b, b < bs.length → F b = [] := fun b hb => by
    apply Classical.byContradiction
    intro hne
    have : F b ∈ fronts bs.length F := mem_fronts.mpr ⟨hne, b, hb, rfl⟩
    rw [he] at this
    cases this
  have hr : ∀ b, b < bs.length → rows b = found.filter (inBox cs b) := fun b hb => by rw [h.a b hb, hF b hb, List.append_nil]
  refine ⟨?_, h.b, fun b hb => by rw [← hr b hb]; exact (hg b hb).2.2⟩
  refine perm_of_subset h.n (fun f hf => List.mem_range.mpr (h.e f hf)) ?_
  rw [List.length_range]
  refine Nat.le_antisymm h.len ?_
  have := length_le_of_subset (xs := List.range cs.length) (ys := found) List.nodup_range fun k hk => by
    have hkn := List.mem_range.mp hk
    obtain ⟨b0, b1⟩ := hw.box hkn
    have hb : (at_ cs k).box.toNat < bs.length := by omega
    have hin : inBox cs (at_ cs k).box.toNat k = true := by unfold inBox; rw [decide_eq_true_eq]; omega
    have h1 : k ∈ rows (at_ cs k).box.toNat := (hg _ hb).1.mem_iff.mpr (by rw [numsAt_eq]; exact List.mem_filter.mpr ⟨hk, hin⟩)
    rw [hr _ hb] at h1
    exact (List.mem_filter.mp h1).1
  rwa [List.length_range] at this
end K74
set_option Elab.async false
set_option linter.all false
set_option maxRecDepth 100000
set_option maxHeartbeats 4000000
namespace K74
open PySem PySem.Spec L2 Mir
variable {ρ : Type} [Rsc ρ] [HasD ρ] {bs : List Int} {cs : List Call} {rows F : Nat → List Nat} {found : List Nat}

def rowL (row : List Nat) : D := .lst (row.map nD)
def frD (fr : List (List Nat)) : D := .lst (fr.map rowL)
theorem asLsts_rows : ∀ fr : List (List Nat), asLsts (fr.map rowL) = some (fr.map fun r => r.map nD)
  | [] => rfl
  | r :: fr => by show (asLsts (fr.map rowL)).map _ = _; rw [asLsts_rows fr]; rfl
theorem flat_map (fr : List (List Nat)) : (fr.map fun r => r.map nD).flatten = fr.flatten.map nD := by
  induction fr with
  | nil => rfl
  | cons r fr ih => rw [List.map_cons, List.flatten_cons, List.flatten_cons, List.map_append, ih]
theorem sum_rows {fr : List (List Nat)} (hne : fr ≠ []) (hz : fr.flatten.length ≤ 1000) : dSum2 (ρ := ρ) [frD fr, .lst []] = some (.lst (fr.flatten.map nD)) := by
  have h1 : fr.map rowL ≠ [] := by simpa using hne
  have h2 : (fr.flatten.map nD).length ≤ sizeLine := by rw [List.length_map, sizeLine_eq]; omega
  unfold dSum2 frD
  dsimp only
  rw [if_neg h1, asLsts_rows, Option.bind_some, flat_map, if_pos h2]
theorem eq_nilL (r : List Nat) : eqD (rowL r) (.lst []) = decide (r = []) := by
  cases r <;> simp [rowL]
theorem eq_nilT (r : List Nat) : eqD (rowD r) (.tup []) = decide (r = []) := by
  cases r <;> simp [rowD]
theorem sm_rowL' (n : Nat) (row : List Nat) : sm (n + 1) (rowL row) = true := sm_rowL n row
theorem ne_nilL (r : List Nat) : dNe (ρ := ρ) (rowL r) (.lst []) = some (.dat (.bl (decide (r ≠ [])))) := by
  rw [dNe_sm (sm_rowL' 63 r) rfl, eq_nilL]; simp
theorem ne_nilT (r : List Nat) : dNe (ρ := ρ) (rowD r) (.tup []) = some (.dat (.bl (decide (r ≠ [])))) := by
  have hs : sm 64 (rowD r) = true := sm_row 63 r
  rw [dNe_sm hs rfl, eq_nilT]; simp
theorem ne_nilF (fr : List (List Nat)) : dNe (ρ := ρ) (frD fr) (.lst []) = some (.dat (.bl (decide (fr ≠ [])))) := by
  rw [dNe_sm (show sm 64 (frD fr) = true from all_sm (fun r => sm_rowL' 62 r) fr) rfl]
  cases fr <;> simp [frD]
theorem comp_f0 (l : List (List Nat)) (hz : l.length ≤ sizeLine) (a : SV ρ) : mComp (srcSeq (mVar 1)) (tgN 6) (mTest (mOp dNe (mVar 6) (mTup (mArgs [])))) (mBlt dListOf (mArgs [(mVar 6)])) [6] [a, .dat (.lst (l.map rowD)), .no, .no, .no, .no, .no, .no] =
    .ok (.lst ((l.filter fun r => decide (r ≠ [])).map rowL)) [a, .dat (.lst (l.map rowD)), .no, .no, .no, .no, .no, .no] := by
  refine (comp_some (enc := rowD) (f := rowL) (pr := fun r => decide (r ≠ [])) (env1 := [a, .dat (.lst (l.map rowD)), .no, .no, .no, .no, .no, .no]) l (by simp) hz
    fun r hr => ⟨[a, .dat (.lst (l.map rowD)), .no, .no, .no, .no, .dat (rowD r), .no], rfl, rfl, by simp [ne_nilT], fun _ => by simp [rowD, rowL]⟩).trans ?_
  rfl
theorem comp_any (left : List Nat) (k : Nat) (hl : ∀ j ∈ left, j < cs.length) (hk : k < cs.length) (hz : left.length ≤ sizeLine) (t : List Nat) (b c d e : SV ρ) :
    mComp (srcSeq (mVar 4)) (tgN 7) mYes (mCall m_is_ahead [.e (mVar 0), .e (mVar 7), .e (mOp dIx (mVar 6) (mC (.int 0)))]) [7] [.dat (.tup (cs.map Call.D)), b, c, d, .dat (rowL left), e, .dat (rowL (k :: t)), .no] =
    .ok (.lst ((left.map fun j => decide ((at_ cs j).fin < (at_ cs k).beg)).map .bl)) [.dat (.tup (cs.map Call.D)), b, c, d, .dat (rowL left), e, .dat (rowL (k :: t)), .no] := by
  refine (comp_all (enc := nD) (f := fun j => .bl (decide ((at_ cs j).fin < (at_ cs k).beg))) (env1 := [.dat (.tup (cs.map Call.D)), b, c, d, .dat (rowL left), e, .dat (rowL (k :: t)), .no]) left (by simp [rowL]) hz
    fun j hj => ⟨[.dat (.tup (cs.map Call.D)), b, c, d, .dat (rowL left), e, .dat (rowL (k :: t)), .dat (nD j)], rfl, rfl, by simp [rowL, r_is_ahead cs (hl j hj) hk]⟩).trans ?_
  rw [List.map_map]; rfl
theorem comp_heads (fr : List (List Nat)) (hne : ∀ r ∈ fr, r ≠ []) (hl : ∀ j ∈ fr.flatten, j < cs.length) (hz : fr.flatten.length ≤ 1000) (hz2 : fr.length ≤ 1000) (b d e : SV ρ) :
    mComp (srcSeq (mVar 2)) (tgN 6) (mNot (mTest (mBlt dAny (mArgs [(mComp (srcSeq (mVar 4)) (tgN 7) mYes (mCall m_is_ahead [.e (mVar 0), .e (mVar 7), .e (mOp dIx (mVar 6) (mC (.int 0)))]) [7])])))) (mOp dIx (mVar 6) (mC (.int 0))) [6]
      [.dat (.tup (cs.map Call.D)), b, .dat (frD fr), d, .dat (rowL fr.flatten), e, .no, .no] = .ok (.lst ((heads cs fr).map nD)) [.dat (.tup (cs.map Call.D)), b, .dat (frD fr), d, .dat (rowL fr.flatten), e, .no, .no] := by
  have hzl : fr.flatten.length ≤ sizeLine := by rw [sizeLine_eq]; omega
  refine (comp_some (enc := rowL) (f := fun r => nD (r.headD 0)) (pr := fun r => !(fr.flatten.any fun j => decide ((at_ cs j).fin < (at_ cs (r.headD 0)).beg))) (env1 := [.dat (.tup (cs.map Call.D)), b, .dat (frD fr), d, .dat (rowL fr.flatten), e, .no, .no]) fr (by simp [frD]) (by rw [sizeLine_eq]; omega)
    fun r hr => ⟨[.dat (.tup (cs.map Call.D)), b, .dat (frD fr), d, .dat (rowL fr.flatten), e, .dat (rowL r), .no], rfl, rfl, ?_, fun _ => ?_⟩).trans ?_
  · cases hr' : r with
    | nil => exact absurd hr' (hne r hr)
    | cons k t =>
      have hk : k < cs.length := hl k (List.mem_flatten.mpr ⟨r, hr, by rw [hr']; exact List.mem_cons_self⟩)
      have hc := comp_any (ρ := ρ) fr.flatten k hl hk hzl t b (.dat (frD fr)) d e
      have ha : (fr.flatten.map fun j => decide ((at_ cs j).fin < (at_ cs k).beg)).any id = fr.flatten.any fun j => decide ((at_ cs j).fin < (at_ cs k).beg) := by rw [List.any_map]; rfl
      show _ = Rs.ok (!(fr.flatten.any fun j => decide ((at_ cs j).fin < (at_ cs k).beg))) _
      rw [← ha]
      generalize (fr.flatten.map fun j => decide ((at_ cs j).fin < (at_ cs k).beg)) = B at hc ⊢
      simp [hc]
  · cases hr' : r with
    | nil => exact absurd hr' (hne r hr)
    | cons k t => simp [rowL]
  · unfold heads
    rw [List.map_map]; rfl
theorem comp_drop (r : List Nat) (k : Nat) (hz : r.length ≤ sizeLine) (a b c d e : SV ρ) : mComp (srcSeq (mVar 6)) (tgN 7) (mTest (mOp dNe (mVar 7) (mVar 5))) (mVar 7) [7] [a, b, c, d, e, .dat (nD k), .dat (rowL r), .no] = .ok (.lst ((r.filter fun j => decide (j ≠ k)).map nD)) [a, b, c, d, e, .dat (nD k), .dat (rowL r), .no] := by
  refine (comp_some (enc := nD) (f := nD) (pr := fun j => decide (j ≠ k)) (env1 := [a, b, c, d, e, .dat (nD k), .dat (rowL r), .no]) r (by simp [rowL]) hz
    fun j hj => ⟨[a, b, c, d, e, .dat (nD k), .dat (rowL r), .dat (nD j)], rfl, rfl, by simp [dNe_sm], fun _ => by simp⟩).trans ?_
  rfl
theorem comp_drops (fr : List (List Nat)) (k : Nat) (hz : ∀ r ∈ fr, r.length ≤ sizeLine) (hz2 : fr.length ≤ sizeLine) (a b d e : SV ρ) : mComp (srcSeq (mVar 2)) (tgN 6) mYes (mComp (srcSeq (mVar 6)) (tgN 7) (mTest (mOp dNe (mVar 7) (mVar 5))) (mVar 7) [7]) [6] [a, b, .dat (frD fr), d, e, .dat (nD k), .no, .no] =
    .ok (.lst ((fr.map fun r => r.filter fun j => decide (j ≠ k)).map rowL)) [a, b, .dat (frD fr), d, e, .dat (nD k), .no, .no] := by
  refine (comp_all (enc := rowL) (f := fun r => rowL (r.filter fun j => decide (j ≠ k))) (env1 := [a, b, .dat (frD fr), d, e, .dat (nD k), .no, .no]) fr (by simp [frD]) hz2
    fun r hr => ⟨[a, b, .dat (frD fr), d, e, .dat (nD k), .dat (rowL r), .no], rfl, rfl, by rw [toD_ev, comp_drop r k (hz r hr)]; rfl⟩).trans ?_
  rw [List.map_map]; rfl
theorem comp_ne (fr : List (List Nat)) (hz2 : fr.length ≤ sizeLine) (a b d e f : SV ρ) : mComp (srcSeq (mVar 2)) (tgN 6) (mTest (mOp dNe (mVar 6) (mLst (mArgs [])))) (mVar 6) [6] [a, b, .dat (frD fr), d, e, f, .no, .no] =
    .ok (.lst ((fr.filter fun r => decide (r ≠ [])).map rowL)) [a, b, .dat (frD fr), d, e, f, .no, .no] := by
  refine (comp_some (enc := rowL) (f := rowL) (pr := fun r => decide (r ≠ [])) (env1 := [a, b, .dat (frD fr), d, e, f, .no, .no]) fr (by simp [frD]) hz2
    fun r hr => ⟨[a, b, .dat (frD fr), d, e, f, .dat (rowL r), .no], rfl, rfl, by simp [ne_nilL], fun _ => by simp⟩).trans ?_
  rfl
end K74
set_option Elab.async false
set_option linter.all false
set_option maxRecDepth 100000
set_option maxHeartbeats 4000000
namespace K74
open PySem PySem.Spec L2 Mir
variable {ρ : Type} [Rsc ρ] [HasD ρ] {bs : List Int} {cs : List Call} {rows F : Nat → List Nat} {found : List Nat}

theorem flat_len : ∀ {l : List (List Nat)} {n : Nat}, (∀ r ∈ l, r.length ≤ n) → l.flatten.length ≤ l.length * n
  | [], n, _ => by simp
  | r :: l, n, h => by
    have h1 := h r List.mem_cons_self
    have h2 := flat_len (l := l) fun x hx => h x (List.mem_cons_of_mem _ hx)
    rw [List.flatten_cons, List.length_append, List.length_cons, Nat.add_mul]
    omega
theorem Lay.small (hw : WF bs cs) (h : Lay bs cs rows found F) (hg : ∀ b, b < bs.length → GoodBox bs cs b (rows b)) : (∀ r ∈ fronts bs.length F, r.length ≤ 8) ∧ (fronts bs.length F).length ≤ 16 ∧ (fronts bs.length F).flatten.length ≤ 1000 ∧ (∀ j ∈ (fronts bs.length F).flatten, j < cs.length) := by
  have h1 : ∀ r ∈ fronts bs.length F, r.length ≤ 8 := fun r hr => by
    obtain ⟨_, b, hb, rfl⟩ := mem_fronts.mp hr
    have h2 := (hg b hb).1.length_eq
    rw [h.a b hb, List.length_append] at h2
    have := hw.few b hb
    omega
  have h2 : (fronts bs.length F).length ≤ 16 := by
    unfold fronts
    have := List.length_filter_le (fun r => decide (r ≠ [])) ((List.range bs.length).map F)
    rw [List.length_map, List.length_range] at this
    have := hw.b1
    omega
  refine ⟨h1, h2, ?_, fun j hj => ?_⟩
  · have h3 := flat_len h1
    have h4 : (fronts bs.length F).length * 8 ≤ 16 * 8 := Nat.mul_le_mul_right 8 h2
    omega
  · obtain ⟨b, hb, hjb⟩ := mem_left.mp hj
    exact (h.inb hg hb hjb).2
theorem r_laid (hw : WF bs cs) (hg : ∀ b, b < bs.length → GoodBox bs cs b (rows b)) : ∃ row, m_laid_together (ρ := ρ) [.dat (.tup (cs.map Call.D)), .dat (.lst (((List.range bs.length).map rows).map rowD))] = .ok (.dat (rowD row)) [.no, .no] ∧ Good bs cs row := by
  have hb1 := hw.b1
  have hf0 := comp_f0 (ρ := ρ) ((List.range bs.length).map rows) (by rw [List.length_map, List.length_range, sizeLine_eq]; omega) (.dat (.tup (cs.map Call.D)))
  have L0 : Lay bs cs rows [] rows := ⟨fun b _ => rfl, List.Pairwise.nil, fun f hf => by (cases hf), fun f hf => by (cases hf), List.nodup_nil⟩
  have e0 : (((List.range bs.length).map rows).filter fun r => decide (r ≠ [])) = fronts bs.length rows := rfl
  rw [e0] at hf0
  generalize (((List.range bs.length).map rows).map rowD) = RW at hf0 ⊢
  simp [m_laid_together, mFn_ev, hf0, sizeLine_eq]
  refine whileN_rule (Post := fun r => ∃ row, fnEnd [] 2 (r.andThen _) = Rs.ok (SV.dat (rowD row)) [.no, .no] ∧ Good bs cs row) (σ := List Nat × (Nat → List Nat))
    (R := fun (x : List Nat × (Nat → List Nat)) env => (∃ z4 z5, env = [.dat (.tup (cs.map Call.D)), .dat (.lst RW), .dat (frD (fronts bs.length x.2)), .lst (x.1.map nD), z4, z5, .no, .no]) ∧ Lay bs cs rows x.1 x.2) (fun x => cs.length - x.1.length) ?_ 100000 ([], rows) _ ⟨⟨_, _, rfl⟩, L0⟩ (by have := hw.c1; show cs.length - 0 < 100000; omega)
  rintro ⟨found, F⟩ env ⟨⟨z4, z5, rfl⟩, h⟩
  dsimp only at h ⊢
  obtain ⟨s1, s2, s3, s4⟩ := h.small hw hg
  by_cases hne : fronts bs.length F = []
  · refine .inl ⟨_, by simp [ne_nilF, hne]; rfl, found, by simp [rowD], h.good hw hg hne⟩
  · obtain ⟨k, l, hh, b, r, hb, hF, hk⟩ := h.heads_ne hw hg hne
    have hL := h.step hg hb hF hk
    have hlen := hL.len
    rw [List.length_append, List.length_singleton] at hlen
    have hcn := hw.c1
    have hsum := sum_rows (ρ := ρ) hne s3
    have hne' : ∀ r ∈ fronts bs.length F, r ≠ [] := fun r hr => (mem_fronts.mp hr).1
    have hhd := comp_heads (ρ := ρ) (cs := cs) (fronts bs.length F) hne' s4 s3 (by omega) (.dat (.lst RW)) (.lst (found.map nD)) z5
    rw [hh] at hhd
    have hd1 := comp_drops (ρ := ρ) (fronts bs.length F) k (fun r hr => by rw [sizeLine_eq]; have := s1 r hr; omega) (by rw [sizeLine_eq]; omega) (.dat (.tup (cs.map Call.D))) (.dat (.lst RW)) (.lst ((found ++ [k]).map nD)) (.dat (rowL (fronts bs.length F).flatten))
    have hd2 := comp_ne (ρ := ρ) ((fronts bs.length F).map fun r => r.filter fun j => decide (j ≠ k)) (by rw [List.length_map, sizeLine_eq]; omega) (.dat (.tup (cs.map Call.D))) (.dat (.lst RW)) (.lst ((found ++ [k]).map nD)) (.dat (rowL (fronts bs.length F).flatten)) (.dat (nD k))
    have hff := fronts_filter bs.length F k
    refine .inr ⟨[.dat (.tup (cs.map Call.D)), .dat (.lst RW), .dat (frD (fronts bs.length F)), .lst (found.map nD), z4, z5, .no, .no], by simp [ne_nilF, hne, sizeLine_eq], .inl ⟨(found ++ [k], fun b => (F b).filter fun j => decide (j ≠ k)),
      [.dat (.tup (cs.map Call.D)), .dat (.lst RW), .dat (frD (fronts bs.length fun b => (F b).filter fun j => decide (j ≠ k))), .lst ((found ++ [k]).map nD), .dat (rowL (fronts bs.length F).flatten), .dat (nD k), .no, .no], ?_, ⟨⟨_, _, rfl⟩, hL⟩, ?_⟩⟩
    · have h3 : found.length < 16777216 := by omega
      have hix : atI ((k :: l).map nD) 0 = some (nD k) := by simp
      rw [hff] at hd2
      generalize ((fronts bs.length F).map fun r => r.filter fun j => decide (j ≠ k)) = fr1 at hd1 hd2
      generalize (fronts bs.length fun b => (F b).filter fun j => decide (j ≠ k)) = fr2 at hd2 ⊢
      generalize (k :: l).map nD = hds at hhd hix
      generalize fronts bs.length F = fr at *
      have hap : (found ++ [k]).map nD = found.map nD ++ [nD k] := by simp
      rw [hap] at hd1 hd2 ⊢
      generalize hfr : fr.flatten = lf at *
      have hrl : rowL lf = .lst (lf.map nD) := rfl
      have hr1 : frD fr1 = .lst (fr1.map rowL) := rfl
      have hr2 : frD fr2 = .lst (fr2.map rowL) := rfl
      rw [hrl] at hhd hd1 hd2 ⊢
      rw [hr1] at hd2
      rw [hr2]
      generalize lf.map nD = lfd at *
      generalize fr1.map rowL = f1d at *
      generalize fr2.map rowL = f2d at *
      generalize frD fr = frd at *
      simp [hsum, sizeLine_eq, hhd, hix, mOwn_ev, fAppend, h3, hd1, hd2]
    · show cs.length - (found ++ [k]).length < cs.length - found.length
      rw [List.length_append, List.length_singleton]
      omega
end K74
set_option Elab.async false
set_option linter.all false
set_option maxRecDepth 100000
set_option maxHeartbeats 4000000
namespace K74
open PySem PySem.Spec L2 Mir
variable {ρ : Type} [Rsc ρ] [HasD ρ] {bs : List Int} {cs : List Call}

theorem r_an_order (hw : WF bs cs) : ∃ res, m_an_order (ρ := ρ) [.dat (.tup (bs.map .int)), .dat (.tup (cs.map Call.D))] = .ok (.dat res) [.no, .no] ∧ ((∃ row, res = rowD row ∧ Good bs cs row) ∨ (res = .non ∧ ∀ row, ¬ Good bs cs row)) := by
  obtain ⟨f, hf, hb⟩ := r_box_orders (ρ := ρ) hw
  have hsm : ((List.range bs.length).map f).all (sm 63) = true := by
    rw [List.all_eq_true]
    intro x hx
    obtain ⟨b, hbr, rfl⟩ := List.mem_map.mp hx
    rcases hb b (List.mem_range.mp hbr) with ⟨r, e, _⟩ | ⟨e, _⟩
    · rw [e]; exact sm_row 62 r
    · rw [e]; rfl
  have hin : dIn (ρ := ρ) .non (.lst ((List.range bs.length).map f)) = some (.dat (.bl (((List.range bs.length).map f).any fun z => eqD z .non))) := dIn_lst rfl hsm
  by_cases hall : ∀ b, b < bs.length → ∃ r, f b = rowD r ∧ GoodBox bs cs b r
  · obtain ⟨rows, hrows⟩ := Classical.axiomOfChoice (r := fun (b : Nat) (r : List Nat) => b < bs.length → f b = rowD r ∧ GoodBox bs cs b r) fun b => by
      by_cases hbl : b < bs.length
      · obtain ⟨r, h1, h2⟩ := hall b hbl
        exact ⟨r, fun _ => ⟨h1, h2⟩⟩
      · exact ⟨[], fun z => absurd z hbl⟩
    have e : (List.range bs.length).map f = ((List.range bs.length).map rows).map rowD := by
      rw [List.map_map]
      exact List.map_congr_left fun b hbr => (hrows b (List.mem_range.mp hbr)).1
    have hno : (((List.range bs.length).map f).any fun z => eqD z .non) = false := by
      rw [List.any_eq_false]
      intro x hx
      obtain ⟨b, hbr, rfl⟩ := List.mem_map.mp hx
      rw [(hrows b (List.mem_range.mp hbr)).1]
      show ¬ eqD (.tup _) .non = true
      rw [eqD_tup_non]; exact Bool.false_ne_true
    obtain ⟨row, h1, h2⟩ := r_laid (ρ := ρ) hw (rows := rows) fun b hbl => (hrows b hbl).2
    rw [← e] at h1
    rw [hno] at hin
    generalize (List.range bs.length).map f = RS at *
    refine ⟨rowD row, ?_, .inl ⟨row, rfl, h2⟩⟩
    simp [m_an_order, mFn_ev, r_want_calls hw, hf, hin, h1]
  · obtain ⟨b, hbl, hnone⟩ : ∃ b, b < bs.length ∧ (f b = .non ∧ ∀ r, ¬ GoodBox bs cs b r) := by
      apply Classical.byContradiction
      intro hn
      refine hall fun b hbl => ?_
      rcases hb b hbl with z | z
      · exact z
      · exact absurd ⟨b, hbl, z⟩ hn
    have hyes : (((List.range bs.length).map f).any fun z => eqD z .non) = true := List.any_eq_true.mpr ⟨f b, List.mem_map_of_mem (List.mem_range.mpr hbl), by rw [hnone.1]; rfl⟩
    rw [hyes] at hin
    generalize (List.range bs.length).map f = RS at *
    refine ⟨.non, ?_, .inr ⟨rfl, fun row hg => hnone.2 _ (hg.box hbl)⟩⟩
    simp [m_an_order, mFn_ev, r_want_calls hw, hf, hin]
/-! ### the law's look at one history -/
theorem eq_rowD (a b : List Nat) : eqD (rowD a) (rowD b) = decide (a = b) := by
  show eqD (.tup _) (.tup _) = _
  rw [eqD_tup, eqDs_nD]
theorem in_rows (x : List Nat) (l : List (List Nat)) : dIn (ρ := ρ) (rowD x) (.lst (l.map rowD)) = some (.dat (.bl (decide (x ∈ l)))) := by
  have h1 : sm 64 (rowD x) = true := sm_row 63 x
  have h2 : (l.map rowD).all (sm 63) = true := all_sm (fun r => show sm 63 (rowD r) = true from sm_row 62 r) l
  rw [dIn_lst h1 h2, any_map eq_rowD]
  congr
theorem mem_step {α : Type} (xs : List α) (a b c : Option Int) {x : α} (h : x ∈ stepD xs a b c) : x ∈ xs := by
  unfold stepD at h
  obtain ⟨i, _, e⟩ := List.mem_filterMap.mp h
  exact List.mem_of_getElem? e
theorem mem_cut {α : Type} (xs : List α) (a b : Option Int) {x : α} (h : x ∈ cutD xs a b) : x ∈ xs := by
  unfold cutD at h
  exact List.mem_of_mem_drop (List.mem_of_mem_take h)
theorem step_map {α β : Type} (f : α → β) (xs : List α) (a b c : Option Int) : stepD (xs.map f) a b c = (stepD xs a b c).map f := by
  unfold stepD
  rw [List.length_map, List.map_filterMap]
  congr 1
  funext i
  rw [List.getElem?_map]
theorem step_len {α : Type} (xs : List α) (a b c : Option Int) : (stepD xs a b c).length ≤ xs.length := by
  have h := slicePick_size_le (xs.map fun _ => Value.none).toArray a b c
  have es : slicePick (xs.map fun _ => Value.none).toArray a b c = (stepD (xs.map fun _ => Value.none) a b c).toArray := by
    unfold slicePick stepD
    rw [List.size_toArray]
    congr 1
    congr 1
    funext i
    exact List.getElem?_toArray
  rw [es, step_map, List.size_toArray, List.size_toArray, List.length_map, List.length_map] at h
  exact h
theorem cut_len {α : Type} (xs : List α) (a b : Option Int) : (cutD xs a b).length ≤ xs.length := by
  unfold cutD
  rw [List.length_take, List.length_drop]
  omega
theorem comp_good (hw : WF bs cs) (A : List (List Nat)) (hA : ∀ r ∈ A, r.Perm (List.range cs.length)) (hz : A.length ≤ sizeLine) : mComp (ρ := ρ) (srcSeq (mVar 2)) (tgN 4) (mTest (mCall m__law_fits [.e (mVar 0), .e (mVar 1), .e (mVar 4)])) (mVar 4) [4] [.dat (.tup (bs.map .int)), .dat (.tup (cs.map Call.D)), .dat (.lst (A.map rowD)), .no, .no, .no, .no] =
    .ok (.lst ((A.filter (lawFits bs cs)).map rowD)) [.dat (.tup (bs.map .int)), .dat (.tup (cs.map Call.D)), .dat (.lst (A.map rowD)), .no, .no, .no, .no] := by
  refine (comp_some (enc := rowD) (f := rowD) (pr := lawFits bs cs) (env1 := [.dat (.tup (bs.map .int)), .dat (.tup (cs.map Call.D)), .dat (.lst (A.map rowD)), .no, .no, .no, .no]) A (by simp) hz
    fun r hr => ⟨[.dat (.tup (bs.map .int)), .dat (.tup (cs.map Call.D)), .dat (.lst (A.map rowD)), .no, .dat (rowD r), .no, .no], rfl, rfl, ?_, fun _ => by simp⟩).trans ?_
  · have h := r_law_fits (ρ := ρ) hw (hA r hr)
    have e : (.tup (r.map nD) : D) = rowD r := rfl
    rw [e] at h
    simp [h]
  · rfl
theorem r_right (hw : WF bs cs) (h5 : cs.length ≤ 5) : m__law_right (ρ := ρ) [.dat (.tup (bs.map .int)), .dat (.tup (cs.map Call.D))] = .ok (.dat (.bl true)) [.no, .no] := by
  obtain ⟨res, hres, hr⟩ := r_an_order (ρ := ρ) hw
  have hall := r_law_all (ρ := ρ) cs.length h5
  have hAl := allOf_len cs.length cs.length h5
  have hA : ∀ r, r ∈ allOf cs.length cs.length ↔ r.Perm (List.range cs.length) := fun r => allOf_perm
  generalize allOf cs.length cs.length = A at hall hAl hA
  have hgood := comp_good (ρ := ρ) hw A (fun r hr => (hA r).mp hr) (by rw [sizeLine_eq]; omega)
  obtain ⟨G, hG⟩ : ∃ G, A.filter (lawFits bs cs) = G := ⟨_, rfl⟩
  have hGm : ∀ r, r ∈ G ↔ r ∈ A ∧ lawFits bs cs r = true := fun r => by rw [← hG, List.mem_filter]
  have hGl : G.length ≤ 3125 := by rw [← hG]; exact Nat.le_trans (List.length_filter_le _ _) hAl
  rw [hG] at hgood
  have hfit : ∀ r ∈ A, m__law_fits (ρ := ρ) [.dat (.tup (bs.map .int)), .dat (.tup (cs.map Call.D)), .dat (rowD r)] = .ok (.dat (.bl (lawFits bs cs r))) [.no, .no, .no] := fun r hr => r_law_fits hw ((hA r).mp hr)
  have hfit2 : ∀ r ∈ A, m_fits (ρ := ρ) [.dat (.tup (bs.map .int)), .dat (.tup (cs.map Call.D)), .dat (rowD r)] = .ok (.dat (.bl (lawFits bs cs r))) [.no, .no, .no] := fun r hr => r_fits' hw ((hA r).mp hr)
  have hrl : ∀ y z : SV ρ, mRangeList (mBlt dLen (mArgs [mVar 1])) [y, .dat (.tup (cs.map Call.D)), z, .no, .no, .no, .no] = .ok (.lst ((List.range cs.length).map nD)) [y, .dat (.tup (cs.map Call.D)), z, .no, .no, .no, .no] := fun y z => rangeList (by simp) (by omega)
  have hst : dSt (ρ := ρ) (.lst (A.map rowD)) none none (some 7) = some (.lst ((stepD A none none (some 7)).map rowD)) := by
    unfold dSt
    dsimp only
    rw [if_neg (by decide), step_map]
  have hcu : cutD (G.map rowD) none (some 9) = (cutD G none (some 9)).map rowD := sIx_map _ _ _ _
  have hs1 := step_len A none none (some 7)
  have hs2 := cut_len G none (some 9)
  have hS : ∀ x ∈ stepD A none none (some 7) ++ cutD G none (some 9), x ∈ A := fun x hx => by
    rcases List.mem_append.mp hx with h | h
    · exact mem_step A _ _ _ h
    · exact ((hGm x).mp (mem_cut G _ _ h)).1
  have hlen : (stepD A none none (some 7)).length + (cutD G none (some 9)).length ≤ 16777216 := by omega
  simp only [m__law_right, mFn_ev]
  simp [hrl, hall, hgood, hst, hcu, hlen, sizeLine_eq, -mRangeList_ev]
  rw [← List.map_append]
  generalize stepD A none none (some 7) ++ cutD G none (some 9) = S at hS ⊢
  refine forL_all (fun r => fnEnd [] 2 (r.andThen _) = _) (R := fun (_ : Unit) env => ∃ z4 z5, env = [.dat (.tup (bs.map .int)), .dat (.tup (cs.map Call.D)), .dat (.lst (A.map rowD)), .dat (.lst (G.map rowD)), z4, z5, .no]) (f := fun _ _ => ()) S () _ ⟨_, _, rfl⟩ ?_ ?_
  · rintro x hx _ env ⟨z4, z5, rfl⟩
    have hxA := hS x hx
    have hi : decide (x ∈ G) = lawFits bs cs x := by
      rw [Bool.eq_iff_iff, decide_eq_true_eq, hGm]
      exact ⟨fun z => z.2, fun z => ⟨hxA, z⟩⟩
    have hin := in_rows (ρ := ρ) x G
    rw [hi] at hin
    have hne : ∀ b : Bool, dNe (ρ := ρ) (.bl b) (.bl b) = some (.dat (.bl false)) := fun b => by rw [dNe_sm rfl rfl]; simp
    exact ⟨_, ⟨_, rfl, by simp [hfit2 x hxA, hin, hne]; exact ⟨rfl, rfl⟩⟩, _, _, rfl⟩
  · rintro env' ⟨z4, z5, rfl⟩
    have hGs : sm 64 (.lst (G.map rowD)) = true := all_sm (fun r => show sm 63 (rowD r) = true from sm_row 62 r) G
    have hne : dEq (ρ := ρ) (.lst (G.map rowD)) (.lst []) = some (.dat (.bl (decide (G = [])))) := by
      rw [dEq_sm hGs rfl]
      cases G <;> simp
    have hfind : ∀ row, Good bs cs row → row ∈ G := fun row hg => (hGm row).mpr ⟨(hA row).mpr hg.1, (lawFits_iff hw hg.1).mpr hg⟩
    by_cases hG0 : G = []
    · rcases hr with ⟨row, rfl, hg⟩ | ⟨rfl, _⟩
      · have := hfind row hg
        rw [hG0] at this
        cases this
      · rw [decide_eq_true hG0] at hne
        generalize G.map rowD = GD at hne ⊢
        simp [hres, hne]
    · rcases hr with ⟨row, rfl, hg⟩ | ⟨rfl, hn⟩
      · have hm := hfind row hg
        have hin := in_rows (ρ := ρ) row G
        rw [decide_eq_true hm] at hin
        have hA' := ((hGm row).mp hm).1
        have hf := hfit row hA'
        rw [((hGm row).mp hm).2] at hf
        have hty : dIsi (ρ := ρ) "tuple" (rowD row) = some (.dat (.bl true)) := isi_tuple_tup _
        simp [hres, hne, hG0, hin, hf, hty]
      · obtain ⟨x, hx⟩ := List.exists_mem_of_ne_nil _ hG0
        obtain ⟨x1, x2⟩ := (hGm x).mp hx
        exact absurd ((lawFits_iff hw ((hA x).mp x1)).mp x2) (hn x)
end K74
set_option Elab.async false
set_option linter.all false
set_option maxRecDepth 100000
set_option maxHeartbeats 4000000
namespace K74
open PySem PySem.Spec L2 Mir
variable {ρ : Type} [Rsc ρ] [HasD ρ] {bs : List Int} {cs : List Call}

def oldD (z : SV ρ) : SV ρ := match z with
  | .dat d => .dat d
  | _ => .no
theorem all_from {α : Type} {f : α → D} {P : α → Prop} : ∀ {ds : List D}, (∀ d ∈ ds, ∃ x, P x ∧ d = f x) → ∃ xs : List α, ds = xs.map f ∧ ∀ x ∈ xs, P x
  | [], _ => ⟨[], rfl, fun x h => (by cases h)⟩
  | d :: ds, h => by
    obtain ⟨x, h1, rfl⟩ := h d List.mem_cons_self
    obtain ⟨xs, rfl, h2⟩ := all_from (ds := ds) fun y hy => h y (List.mem_cons_of_mem _ hy)
    exact ⟨x :: xs, rfl, fun y hy => by
      rcases List.mem_cons.mp hy with rfl | hy
      · exact h1
      · exact h2 y hy⟩
theorem draw_board (s k z3 z4 z5 z6 : SV ρ) {a b : Int} (h : PotOk a b) : ∃ (bs : List Int) (a' b' : Int) (w : SV ρ), mComp (srcRng1 (mOp dAdd (mC (.int 1)) (mCall m__law_take [.io 2, .e (mC (.int 2))]))) (tgN 5) mYes (mCall m__law_take [.io 2, .e (mC (.int 3))]) [5] [s, k, .lst [.int a, .int b], z3, z4, z5, z6] =
    .ok (.lst (bs.map .int)) [s, k, .lst [.int a', .int b'], z3, z4, w, z6] ∧ PotOk a' b' ∧ 1 ≤ bs.length ∧ bs.length ≤ 2 := by
  obtain ⟨v, a1, b1, t1, x1, y1, h1⟩ := r_take (ρ := ρ) (n := 2) h (by decide) (by decide)
  obtain ⟨n, hn⟩ : ∃ n : Nat, 1 + v = (n : Int) := ⟨(1 + v).toNat, by omega⟩
  have hs : srcRng1 (mOp dAdd (mC (.int 1)) (mCall m__law_take [.io 2, .e (mC (.int 2))])) [s, k, .lst [.int a, .int b], z3, z4, z5, z6] = .ok ((List.range n).map nD) [s, k, .lst [.int a1, .int b1], z3, z4, z5, z6] := rng1_ev (by simp [akVals_io, t1, hn]) (by omega)
  obtain ⟨ds, E', c1, c2, c3, a2, b2, h2, rfl⟩ := compL_st (ρ := ρ) (g := tgN 5) (me := mCall m__law_take [.io 2, .e (mC (.int 3))]) (vs := [5]) (enc := nD) (R := fun E => ∃ a b, PotOk a b ∧ E = [s, k, .lst [.int a, .int b], z3, z4, .no, z6]) (P := fun d => ∃ v : Int, True ∧ d = .int v)
    (List.range n) [s, k, .lst [.int a1, .int b1], z3, z4, .no, z6] [] ⟨a1, b1, h1, rfl⟩ (by rw [List.length_range, sizeLine_eq]; show 0 + n ≤ 16777216; omega) (by
      rintro x _ E ⟨a, b, hp, rfl⟩
      obtain ⟨v, a', b', t, _, _, hp'⟩ := r_take (ρ := ρ) (n := 3) hp (by decide) (by decide)
      exact ⟨[s, k, .lst [.int a, .int b], z3, z4, .dat (nD x), z6], [s, k, .lst [.int a', .int b'], z3, z4, .dat (nD x), z6], .int v, rfl, by simp [akVals_io, t], ⟨v, trivial, rfl⟩, a', b', hp', rfl⟩)
  obtain ⟨bs, rfl, _⟩ := all_from c3
  rw [List.length_map, List.length_range] at c2
  refine ⟨bs, a2, b2, oldD z5, (mComp_ok hs c1).trans ?_, h2, by omega, by omega⟩
  rw [List.nil_append]
  clear hs
  cases z5 <;> rfl
theorem draw_calls (s k z3 z5 z4 z6 : SV ρ) {a b : Int} (h : PotOk a b) (bs : List Int) (hb1 : 1 ≤ bs.length) (hb2 : bs.length ≤ 2) : ∃ (cs : List Call) (a' b' : Int) (w : SV ρ), mComp (srcRng1 (mCall m__law_take [.io 2, .e (mC (.int 6))])) (tgN 6) mYes (mCall m__law_call [.io 2, .e (mBlt dLen (mArgs [(mVar 3)]))]) [6] [s, k, .lst [.int a, .int b], .dat (.tup (bs.map .int)), z4, z5, z6] =
    .ok (.lst (cs.map Call.D)) [s, k, .lst [.int a', .int b'], .dat (.tup (bs.map .int)), z4, z5, w] ∧ cs.length ≤ 5 ∧ ∀ c ∈ cs, c.ok bs.length = true := by
  obtain ⟨v, a1, b1, t1, x1, y1, h1⟩ := r_take (ρ := ρ) (n := 6) h (by decide) (by decide)
  obtain ⟨n, hn⟩ : ∃ n : Nat, v = (n : Int) := ⟨v.toNat, by omega⟩
  have hs : srcRng1 (mCall m__law_take [.io 2, .e (mC (.int 6))]) [s, k, .lst [.int a, .int b], .dat (.tup (bs.map .int)), z4, z5, z6] = .ok ((List.range n).map nD) [s, k, .lst [.int a1, .int b1], .dat (.tup (bs.map .int)), z4, z5, z6] := rng1_ev (by simp [akVals_io, t1, hn]) (by omega)
  obtain ⟨ds, E', c1, c2, c3, a2, b2, h2, rfl⟩ := compL_st (ρ := ρ) (g := tgN 6) (me := mCall m__law_call [.io 2, .e (mBlt dLen (mArgs [(mVar 3)]))]) (vs := [6]) (enc := nD) (R := fun E => ∃ a b, PotOk a b ∧ E = [s, k, .lst [.int a, .int b], .dat (.tup (bs.map .int)), z4, z5, .no]) (P := fun d => ∃ c : Call, c.ok bs.length = true ∧ d = c.D)
    (List.range n) [s, k, .lst [.int a1, .int b1], .dat (.tup (bs.map .int)), z4, z5, .no] [] ⟨a1, b1, h1, rfl⟩ (by rw [List.length_range, sizeLine_eq]; show 0 + n ≤ 16777216; omega) (by
      rintro x _ E ⟨a, b, hp, rfl⟩
      obtain ⟨c, a', b', t, hok, hp'⟩ := r_call (ρ := ρ) (n := bs.length) hp hb1 (by omega)
      exact ⟨[s, k, .lst [.int a, .int b], .dat (.tup (bs.map .int)), z4, z5, .dat (nD x)], [s, k, .lst [.int a', .int b'], .dat (.tup (bs.map .int)), z4, z5, .dat (nD x)], c.D, rfl, by simp [akVals_io, t], ⟨c, hok, rfl⟩, a', b', hp', rfl⟩)
  obtain ⟨cs, rfl, hc⟩ := all_from c3
  rw [List.length_map, List.length_range] at c2
  refine ⟨cs, a2, b2, oldD z6, (mComp_ok hs c1).trans ?_, by omega, hc⟩
  rw [List.nil_append]
  clear hs
  cases z6 <;> rfl
theorem wf_of (hb1 : 1 ≤ bs.length) (hb2 : bs.length ≤ 2) (hc : cs.length ≤ 5) (hok : ∀ c ∈ cs, c.ok bs.length = true) : WF bs cs where
  b0 := hb1
  b1 := by omega
  c1 := by omega
  ok := hok
  few := fun b _ => by
    rw [numsAt_eq]
    have := List.length_filter_le (inBox cs b) (List.range cs.length)
    rw [List.length_range] at this
    omega
theorem main_law (ns : List Int) (h : ns.length ≤ 63) : ∃ env, m_law (ρ := ρ) [.dat (.scr ns)] = .ok (.dat (.bl true)) env := by
  refine ⟨[.no], ?_⟩
  obtain ⟨n, hn, hn8⟩ : ∃ n : Nat, max 2 (min 8 (ns.length : Int)) = (n : Int) ∧ n ≤ 8 := ⟨(max 2 (min 8 (ns.length : Int))).toNat, by omega, by omega⟩
  have hs : srcRng1 (mBlt dMax2 (mArgs [(mC (.int 2)), (mBlt dMin2 (mArgs [(mC (.int 8)), (mBlt dLen (mArgs [(mVar 0)]))]))])) [.dat (.scr ns), .no, .no, .no, .no, .no, (.no : SV ρ)] = .ok ((List.range n).map nD) [.dat (.scr ns), .no, .no, .no, .no, .no, .no] := rng1_ev (by simp [hn]) (by omega)
  simp only [m_law, mFn_ev]
  simp [hs]
  refine forL_all (fun r => fnEnd [] 1 (r.andThen _) = _) (R := fun (_ : Unit) env => ∃ z1 z2 z3 z4 z5 z6, env = [.dat (.scr ns), z1, z2, z3, z4, z5, z6]) (f := fun _ _ => ()) (List.range n) () _ ⟨_, _, _, _, _, _, rfl⟩ ?_ ?_
  · rintro i hi _ env ⟨z1, z2, z3, z4, z5, z6, rfl⟩
    have hi8 := List.mem_range.mp hi
    obtain ⟨a, b, hpot, hp⟩ := r_pot (ρ := ρ) ns i (by omega)
    obtain ⟨bs, a1, b1, w5, hbd, hp1, l1, l2⟩ := draw_board (ρ := ρ) (.dat (.scr ns)) (.dat (nD i)) z3 z4 z5 z6 hp
    obtain ⟨cs, a2, b2, w6, hcl, hc5, hok⟩ := draw_calls (ρ := ρ) (.dat (.scr ns)) (.dat (nD i)) z3 w5 z4 z6 hp1 bs l1 l2
    have hw := wf_of l1 l2 hc5 hok
    have hr := r_right (ρ := ρ) hw hc5
    have hpot' : m__law_pot (ρ := ρ) [.dat (.scr ns), .dat (nD i)] = .ok (.lst [.int a, .int b]) [.no, .no] := hpot
    refine ⟨[.dat (.scr ns), .dat (nD i), .lst [.int a2, .int b2], .dat (.tup (bs.map .int)), .dat (.tup (cs.map Call.D)), w5, w6], ⟨_, rfl, ?_⟩, _, _, _, _, _, _, rfl⟩
    simp [hpot', hbd, hcl, hr]
  · rintro env' ⟨z1, z2, z3, z4, z5, z6, rfl⟩
    simp
end K74
set_option Elab.async false
set_option linter.all false
set_option maxRecDepth 100000
set_option maxHeartbeats 4000000
namespace K74
open PySem PySem.Spec L2 Mir
theorem all_mk {P : Program} {w : World} {K : PySem.W.Frag} {h : Heap} {mg : Str → Option Value} {fa : Addr} (hm : ∀ ns : List Int, ns.length ≤ 63 → ∃ env, m_law (ρ := (DR w)) [.dat (.scr ns)] = .ok (.dat (.bl true)) env) (X : K.In h) (G : h.Ns mainGlobals mg) (hfa : mg "law" = some (.ref fa))
    {f0 f1 f2 f3 f4 f5 f6 f7 f8 f9 f10 f11 f12 f13 f14 f15 f16 f17 f18 f19 f20 f21 f22 f23 f24 f25 f26 f27 f28 f29 f30 f31 f32 f33 f34 f35 f36 C0 C1 : Addr}
    {od0 an0 od1 an1 od2 an2 od3 an3 od4 an4 od5 an5 od6 an6 od7 an7 od8 an8 od9 an9 od10 an10 od11 an11 od12 an12 od13 an13 od14 an14 od15 an15 od16 an16 od17 an17 od18 an18 od19 an19 od20 an20 od21 an21 od22 an22 od23 an23 od24 an24 od25 an25 od26 an26 od27 an27 od28 an28 od29 an29 od30 an30 od31 an31 od32 an32 od33 an33 od34 an34 od35 an35 od36 an36 : Option Addr} {sl0 sl1 sl2 sl3 sl4 sl5 sl6 sl7 sl8 sl9 sl10 sl11 sl12 sl13 sl14 sl15 sl16 sl17 sl18 sl19 sl20 sl21 sl22 sl23 sl24 sl25 sl26 sl27 sl28 sl29 sl30 sl31 sl32 sl33 sl34 sl35 sl36 : Array (Option Value)} {oc0 kV0 dc0 pm0 cd0 ct0 oc1 kV1 dc1 pm1 cd1 ct1 oc2 kV2 dc2 pm2 cd2 ct2 oc3 kV3 dc3 pm3 cd3 ct3 oc4 kV4 dc4 pm4 cd4 ct4 oc5 kV5 dc5 pm5 cd5 ct5 oc6 kV6 dc6 pm6 cd6 ct6 oc7 kV7 dc7 pm7 cd7 ct7 oc8 kV8 dc8 pm8 cd8 ct8 oc9 kV9 dc9 pm9 cd9 ct9 oc10 kV10 dc10 pm10 cd10 ct10 oc11 kV11 dc11 pm11 cd11 ct11 oc12 kV12 dc12 pm12 cd12 ct12 oc13 kV13 dc13 pm13 cd13 ct13 oc14 kV14 dc14 pm14 cd14 ct14 oc15 kV15 dc15 pm15 cd15 ct15 oc16 kV16 dc16 pm16 cd16 ct16 oc17 kV17 dc17 pm17 cd17 ct17 oc18 kV18 dc18 pm18 cd18 ct18 oc19 kV19 dc19 pm19 cd19 ct19 oc20 kV20 dc20 pm20 cd20 ct20 oc21 kV21 dc21 pm21 cd21 ct21 oc22 kV22 dc22 pm22 cd22 ct22 oc23 kV23 dc23 pm23 cd23 ct23 oc24 kV24 dc24 pm24 cd24 ct24 oc25 kV25 dc25 pm25 cd25 ct25 oc26 kV26 dc26 pm26 cd26 ct26 oc27 kV27 dc27 pm27 cd27 ct27 oc28 kV28 dc28 pm28 cd28 ct28 oc29 kV29 dc29 pm29 cd29 ct29 oc30 kV30 dc30 pm30 cd30 ct30 oc31 kV31 dc31 pm31 cd31 ct31 oc32 kV32 dc32 pm32 cd32 ct32 oc33 kV33 dc33 pm33 cd33 ct33 oc34 kV34 dc34 pm34 cd34 ct34 oc35 kV35 dc35 pm35 cd35 ct35 oc36 kV36 dc36 pm36 cd36 ct36 cv0 cv1 cv2 cv3 cv4 : Value}
    (a0 : PySem.W.nsIn K mainGlobals "is_whole" = some (some (.ref f0))) (l0 : K.lookup f0 = some ⟨oc0, od0, .func (PySem.W.fnOf "is_whole" "is_whole" (defArgs s_is_whole) (defBody s_is_whole) (defScope s_is_whole) .none kV0 dc0 pm0 an0 cd0 ct0), sl0⟩) (c0 : PySem.W.codeIn K cd0 "is_whole" = true) (k0 : PySem.W.keepIn K (.ref f0) = true)
    (a1 : PySem.W.nsIn K mainGlobals "is_row_of" = some (some (.ref f1))) (l1 : K.lookup f1 = some ⟨oc1, od1, .func (PySem.W.fnOf "is_row_of" "is_row_of" (defArgs s_is_row_of) (defBody s_is_row_of) (defScope s_is_row_of) .none kV1 dc1 pm1 an1 cd1 ct1), sl1⟩) (c1 : PySem.W.codeIn K cd1 "is_row_of" = true) (k1 : PySem.W.keepIn K (.ref f1) = true)
    (a2 : PySem.W.nsIn K mainGlobals "is_end" = some (some (.ref f2))) (l2 : K.lookup f2 = some ⟨oc2, od2, .func (PySem.W.fnOf "is_end" "is_end" (defArgs s_is_end) (defBody s_is_end) (defScope s_is_end) .none kV2 dc2 pm2 an2 cd2 ct2), sl2⟩) (c2 : PySem.W.codeIn K cd2 "is_end" = true) (k2 : PySem.W.keepIn K (.ref f2) = true)
    (a3 : PySem.W.nsIn K mainGlobals "is_deed" = some (some (.ref f3))) (l3 : K.lookup f3 = some ⟨oc3, od3, .func (PySem.W.fnOf "is_deed" "is_deed" (defArgs s_is_deed) (defBody s_is_deed) (defScope s_is_deed) .none kV3 dc3 pm3 an3 cd3 ct3), sl3⟩) (c3 : PySem.W.codeIn K cd3 "is_deed" = true) (k3 : PySem.W.keepIn K (.ref f3) = true)
    (a4 : PySem.W.nsIn K mainGlobals "put_through" = some (some (.ref f4))) (l4 : K.lookup f4 = some ⟨oc4, od4, .func (PySem.W.fnOf "put_through" "put_through" (defArgs s_put_through) (defBody s_put_through) (defScope s_put_through) .none kV4 dc4 pm4 an4 cd4 ct4), sl4⟩) (c4 : PySem.W.codeIn K cd4 "put_through" = true) (k4 : PySem.W.keepIn K (.ref f4) = true)
    (a5 : PySem.W.nsIn K mainGlobals "is_board" = some (some (.ref f5))) (l5 : K.lookup f5 = some ⟨oc5, od5, .func (PySem.W.fnOf "is_board" "is_board" (defArgs s_is_board) (defBody s_is_board) (defScope s_is_board) .none kV5 dc5 pm5 an5 cd5 ct5), sl5⟩) (c5 : PySem.W.codeIn K cd5 "is_board" = true) (k5 : PySem.W.keepIn K (.ref f5) = true)
    (a6 : PySem.W.nsIn K mainGlobals "want_board" = some (some (.ref f6))) (l6 : K.lookup f6 = some ⟨oc6, od6, .func (PySem.W.fnOf "want_board" "want_board" (defArgs s_want_board) (defBody s_want_board) (defScope s_want_board) .none kV6 dc6 pm6 an6 cd6 ct6), sl6⟩) (c6 : PySem.W.codeIn K cd6 "want_board" = true) (k6 : PySem.W.keepIn K (.ref f6) = true)
    (a7 : PySem.W.nsIn K mainGlobals "is_ask" = some (some (.ref f7))) (l7 : K.lookup f7 = some ⟨oc7, od7, .func (PySem.W.fnOf "is_ask" "is_ask" (defArgs s_is_ask) (defBody s_is_ask) (defScope s_is_ask) .none kV7 dc7 pm7 an7 cd7 ct7), sl7⟩) (c7 : PySem.W.codeIn K cd7 "is_ask" = true) (k7 : PySem.W.keepIn K (.ref f7) = true)
    (a8 : PySem.W.nsIn K mainGlobals "are_times" = some (some (.ref f8))) (l8 : K.lookup f8 = some ⟨oc8, od8, .func (PySem.W.fnOf "are_times" "are_times" (defArgs s_are_times) (defBody s_are_times) (defScope s_are_times) .none kV8 dc8 pm8 an8 cd8 ct8), sl8⟩) (c8 : PySem.W.codeIn K cd8 "are_times" = true) (k8 : PySem.W.keepIn K (.ref f8) = true)
    (a9 : PySem.W.nsIn K mainGlobals "is_call" = some (some (.ref f9))) (l9 : K.lookup f9 = some ⟨oc9, od9, .func (PySem.W.fnOf "is_call" "is_call" (defArgs s_is_call) (defBody s_is_call) (defScope s_is_call) .none kV9 dc9 pm9 an9 cd9 ct9), sl9⟩) (c9 : PySem.W.codeIn K cd9 "is_call" = true) (k9 : PySem.W.keepIn K (.ref f9) = true)
    (a10 : PySem.W.nsIn K mainGlobals "numbers_at" = some (some (.ref f10))) (l10 : K.lookup f10 = some ⟨oc10, od10, .func (PySem.W.fnOf "numbers_at" "numbers_at" (defArgs s_numbers_at) (defBody s_numbers_at) (defScope s_numbers_at) .none kV10 dc10 pm10 an10 cd10 ct10), sl10⟩) (c10 : PySem.W.codeIn K cd10 "numbers_at" = true) (k10 : PySem.W.keepIn K (.ref f10) = true)
    (a11 : PySem.W.nsIn K mainGlobals "are_calls" = some (some (.ref f11))) (l11 : K.lookup f11 = some ⟨oc11, od11, .func (PySem.W.fnOf "are_calls" "are_calls" (defArgs s_are_calls) (defBody s_are_calls) (defScope s_are_calls) .none kV11 dc11 pm11 an11 cd11 ct11), sl11⟩) (c11 : PySem.W.codeIn K cd11 "are_calls" = true) (k11 : PySem.W.keepIn K (.ref f11) = true)
    (a12 : PySem.W.nsIn K mainGlobals "want_calls" = some (some (.ref f12))) (l12 : K.lookup f12 = some ⟨oc12, od12, .func (PySem.W.fnOf "want_calls" "want_calls" (defArgs s_want_calls) (defBody s_want_calls) (defScope s_want_calls) .none kV12 dc12 pm12 an12 cd12 ct12), sl12⟩) (c12 : PySem.W.codeIn K cd12 "want_calls" = true) (k12 : PySem.W.keepIn K (.ref f12) = true)
    (a13 : PySem.W.nsIn K mainGlobals "are_numbers_of" = some (some (.ref f13))) (l13 : K.lookup f13 = some ⟨oc13, od13, .func (PySem.W.fnOf "are_numbers_of" "are_numbers_of" (defArgs s_are_numbers_of) (defBody s_are_numbers_of) (defScope s_are_numbers_of) .none kV13 dc13 pm13 an13 cd13 ct13), sl13⟩) (c13 : PySem.W.codeIn K cd13 "are_numbers_of" = true) (k13 : PySem.W.keepIn K (.ref f13) = true)
    (a14 : PySem.W.nsIn K mainGlobals "is_ahead" = some (some (.ref f14))) (l14 : K.lookup f14 = some ⟨oc14, od14, .func (PySem.W.fnOf "is_ahead" "is_ahead" (defArgs s_is_ahead) (defBody s_is_ahead) (defScope s_is_ahead) .none kV14 dc14 pm14 an14 cd14 ct14), sl14⟩) (c14 : PySem.W.codeIn K cd14 "is_ahead" = true) (k14 : PySem.W.keepIn K (.ref f14) = true)
    (a15 : PySem.W.nsIn K mainGlobals "keeps_ahead" = some (some (.ref f15))) (l15 : K.lookup f15 = some ⟨oc15, od15, .func (PySem.W.fnOf "keeps_ahead" "keeps_ahead" (defArgs s_keeps_ahead) (defBody s_keeps_ahead) (defScope s_keeps_ahead) .none kV15 dc15 pm15 an15 cd15 ct15), sl15⟩) (c15 : PySem.W.codeIn K cd15 "keeps_ahead" = true) (k15 : PySem.W.keepIn K (.ref f15) = true)
    (a16 : PySem.W.nsIn K mainGlobals "answers_so" = some (some (.ref f16))) (l16 : K.lookup f16 = some ⟨oc16, od16, .func (PySem.W.fnOf "answers_so" "answers_so" (defArgs s_answers_so) (defBody s_answers_so) (defScope s_answers_so) .none kV16 dc16 pm16 an16 cd16 ct16), sl16⟩) (c16 : PySem.W.codeIn K cd16 "answers_so" = true) (k16 : PySem.W.keepIn K (.ref f16) = true)
    (a17 : PySem.W.nsIn K mainGlobals "fits" = some (some (.ref f17))) (l17 : K.lookup f17 = some ⟨oc17, od17, .func (PySem.W.fnOf "fits" "fits" (defArgs s_fits) (defBody s_fits) (defScope s_fits) .none kV17 dc17 pm17 an17 cd17 ct17), sl17⟩) (c17 : PySem.W.codeIn K cd17 "fits" = true) (k17 : PySem.W.keepIn K (.ref f17) = true)
    (a18 : PySem.W.nsIn K mainGlobals "may_be_next" = some (some (.ref f18))) (l18 : K.lookup f18 = some ⟨oc18, od18, .func (PySem.W.fnOf "may_be_next" "may_be_next" (defArgs s_may_be_next) (defBody s_may_be_next) (defScope s_may_be_next) .none kV18 dc18 pm18 an18 cd18 ct18), sl18⟩) (c18 : PySem.W.codeIn K cd18 "may_be_next" = true) (k18 : PySem.W.keepIn K (.ref f18) = true)
    (a19 : PySem.W.nsIn K mainGlobals "next_states" = some (some (.ref f19))) (l19 : K.lookup f19 = some ⟨oc19, od19, .func (PySem.W.fnOf "next_states" "next_states" (defArgs s_next_states) (defBody s_next_states) (defScope s_next_states) .none kV19 dc19 pm19 an19 cd19 ct19), sl19⟩) (c19 : PySem.W.codeIn K cd19 "next_states" = true) (k19 : PySem.W.keepIn K (.ref f19) = true)
    (a20 : PySem.W.nsIn K mainGlobals "row_to" = some (some (.ref f20))) (l20 : K.lookup f20 = some ⟨oc20, od20, .func (PySem.W.fnOf "row_to" "row_to" (defArgs s_row_to) (defBody s_row_to) (defScope s_row_to) .none kV20 dc20 pm20 an20 cd20 ct20), sl20⟩) (c20 : PySem.W.codeIn K cd20 "row_to" = true) (k20 : PySem.W.keepIn K (.ref f20) = true)
    (a21 : PySem.W.nsIn K mainGlobals "order_at" = some (some (.ref f21))) (l21 : K.lookup f21 = some ⟨oc21, od21, .func (PySem.W.fnOf "order_at" "order_at" (defArgs s_order_at) (defBody s_order_at) (defScope s_order_at) .none kV21 dc21 pm21 an21 cd21 ct21), sl21⟩) (c21 : PySem.W.codeIn K cd21 "order_at" = true) (k21 : PySem.W.keepIn K (.ref f21) = true)
    (a22 : PySem.W.nsIn K mainGlobals "box_orders" = some (some (.ref f22))) (l22 : K.lookup f22 = some ⟨oc22, od22, .func (PySem.W.fnOf "box_orders" "box_orders" (defArgs s_box_orders) (defBody s_box_orders) (defScope s_box_orders) .none kV22 dc22 pm22 an22 cd22 ct22), sl22⟩) (c22 : PySem.W.codeIn K cd22 "box_orders" = true) (k22 : PySem.W.keepIn K (.ref f22) = true)
    (a23 : PySem.W.nsIn K mainGlobals "laid_together" = some (some (.ref f23))) (l23 : K.lookup f23 = some ⟨oc23, od23, .func (PySem.W.fnOf "laid_together" "laid_together" (defArgs s_laid_together) (defBody s_laid_together) (defScope s_laid_together) .none kV23 dc23 pm23 an23 cd23 ct23), sl23⟩) (c23 : PySem.W.codeIn K cd23 "laid_together" = true) (k23 : PySem.W.keepIn K (.ref f23) = true)
    (a24 : PySem.W.nsIn K mainGlobals "an_order" = some (some (.ref f24))) (l24 : K.lookup f24 = some ⟨oc24, od24, .func (PySem.W.fnOf "an_order" "an_order" (defArgs s_an_order) (defBody s_an_order) (defScope s_an_order) .none kV24 dc24 pm24 an24 cd24 ct24), sl24⟩) (c24 : PySem.W.codeIn K cd24 "an_order" = true) (k24 : PySem.W.keepIn K (.ref f24) = true)
    (a25 : PySem.W.nsIn K mainGlobals "_law_at" = some (some (.ref f25))) (l25 : K.lookup f25 = some ⟨oc25, od25, .func (PySem.W.fnOf "_law_at" "_law_at" (defArgs s__law_at) (defBody s__law_at) (defScope s__law_at) .none kV25 dc25 pm25 an25 cd25 ct25), sl25⟩) (c25 : PySem.W.codeIn K cd25 "_law_at" = true) (k25 : PySem.W.keepIn K (.ref f25) = true)
    (a26 : PySem.W.nsIn K mainGlobals "_law_pot" = some (some (.ref f26))) (l26 : K.lookup f26 = some ⟨oc26, od26, .func (PySem.W.fnOf "_law_pot" "_law_pot" (defArgs s__law_pot) (defBody s__law_pot) (defScope s__law_pot) .none kV26 dc26 pm26 an26 cd26 ct26), sl26⟩) (c26 : PySem.W.codeIn K cd26 "_law_pot" = true) (k26 : PySem.W.keepIn K (.ref f26) = true)
    (a27 : PySem.W.nsIn K mainGlobals "_law_take" = some (some (.ref f27))) (l27 : K.lookup f27 = some ⟨oc27, od27, .func (PySem.W.fnOf "_law_take" "_law_take" (defArgs s__law_take) (defBody s__law_take) (defScope s__law_take) .none kV27 dc27 pm27 an27 cd27 ct27), sl27⟩) (c27 : PySem.W.codeIn K cd27 "_law_take" = true) (k27 : PySem.W.keepIn K (.ref f27) = true)
    (a28 : PySem.W.nsIn K mainGlobals "_law_done" = some (some (.ref f28))) (l28 : K.lookup f28 = some ⟨oc28, od28, .func (PySem.W.fnOf "_law_done" "_law_done" (defArgs s__law_done) (defBody s__law_done) (defScope s__law_done) .none kV28 dc28 pm28 an28 cd28 ct28), sl28⟩) (c28 : PySem.W.codeIn K cd28 "_law_done" = true) (k28 : PySem.W.keepIn K (.ref f28) = true)
    (a29 : PySem.W.nsIn K mainGlobals "_law_is_order" = some (some (.ref f29))) (l29 : K.lookup f29 = some ⟨oc29, od29, .func (PySem.W.fnOf "_law_is_order" "_law_is_order" (defArgs s__law_is_order) (defBody s__law_is_order) (defScope s__law_is_order) .none kV29 dc29 pm29 an29 cd29 ct29), sl29⟩) (c29 : PySem.W.codeIn K cd29 "_law_is_order" = true) (k29 : PySem.W.keepIn K (.ref f29) = true)
    (a30 : PySem.W.nsIn K mainGlobals "_law_keeps" = some (some (.ref f30))) (l30 : K.lookup f30 = some ⟨oc30, od30, .func (PySem.W.fnOf "_law_keeps" "_law_keeps" (defArgs s__law_keeps) (defBody s__law_keeps) (defScope s__law_keeps) .none kV30 dc30 pm30 an30 cd30 ct30), sl30⟩) (c30 : PySem.W.codeIn K cd30 "_law_keeps" = true) (k30 : PySem.W.keepIn K (.ref f30) = true)
    (a31 : PySem.W.nsIn K mainGlobals "_law_answers" = some (some (.ref f31))) (l31 : K.lookup f31 = some ⟨oc31, od31, .func (PySem.W.fnOf "_law_answers" "_law_answers" (defArgs s__law_answers) (defBody s__law_answers) (defScope s__law_answers) .none kV31 dc31 pm31 an31 cd31 ct31), sl31⟩) (c31 : PySem.W.codeIn K cd31 "_law_answers" = true) (k31 : PySem.W.keepIn K (.ref f31) = true)
    (a32 : PySem.W.nsIn K mainGlobals "_law_fits" = some (some (.ref f32))) (l32 : K.lookup f32 = some ⟨oc32, od32, .func (PySem.W.fnOf "_law_fits" "_law_fits" (defArgs s__law_fits) (defBody s__law_fits) (defScope s__law_fits) .none kV32 dc32 pm32 an32 cd32 ct32), sl32⟩) (c32 : PySem.W.codeIn K cd32 "_law_fits" = true) (k32 : PySem.W.keepIn K (.ref f32) = true)
    (a33 : PySem.W.nsIn K mainGlobals "_law_call" = some (some (.ref f33))) (l33 : K.lookup f33 = some ⟨oc33, od33, .func (PySem.W.fnOf "_law_call" "_law_call" (defArgs s__law_call) (defBody s__law_call) (defScope s__law_call) .none kV33 dc33 pm33 an33 cd33 ct33), sl33⟩) (c33 : PySem.W.codeIn K cd33 "_law_call" = true) (k33 : PySem.W.keepIn K (.ref f33) = true)
    (a34 : PySem.W.nsIn K mainGlobals "_law_all" = some (some (.ref f34))) (l34 : K.lookup f34 = some ⟨oc34, od34, .func (PySem.W.fnOf "_law_all" "_law_all" (defArgs s__law_all) (defBody s__law_all) (defScope s__law_all) .none kV34 dc34 pm34 an34 cd34 ct34), sl34⟩) (c34 : PySem.W.codeIn K cd34 "_law_all" = true) (k34 : PySem.W.keepIn K (.ref f34) = true)
    (a35 : PySem.W.nsIn K mainGlobals "_law_right" = some (some (.ref f35))) (l35 : K.lookup f35 = some ⟨oc35, od35, .func (PySem.W.fnOf "_law_right" "_law_right" (defArgs s__law_right) (defBody s__law_right) (defScope s__law_right) .none kV35 dc35 pm35 an35 cd35 ct35), sl35⟩) (c35 : PySem.W.codeIn K cd35 "_law_right" = true) (k35 : PySem.W.keepIn K (.ref f35) = true)
    (a36 : PySem.W.nsIn K mainGlobals "law" = some (some (.ref f36))) (l36 : K.lookup f36 = some ⟨oc36, od36, .func (PySem.W.fnOf "law" "law" (defArgs s_law) (defBody s_law) (defScope s_law) .none kV36 dc36 pm36 an36 cd36 ct36), sl36⟩) (c36 : PySem.W.codeIn K cd36 "law" = true) (k36 : PySem.W.keepIn K (.ref f36) = true)
    (u0 : PySem.W.nsIn K mainGlobals "CALL_PARTS" = some (some cv0)) (v0 : ∀ ca : Str → Addr, ∃ v : V, RelV v cv0 ∧ ∀ H, Rep K ca H v k_CALL_PARTS)
    (u1 : PySem.W.nsIn K mainGlobals "HANDS" = some (some cv1)) (v1 : ∀ ca : Str → Addr, ∃ v : V, RelV v cv1 ∧ ∀ H, Rep K ca H v k_HANDS)
    (u2 : PySem.W.nsIn K mainGlobals "MOST_AT_A_BOX" = some (some cv2)) (v2 : ∀ ca : Str → Addr, ∃ v : V, RelV v cv2 ∧ ∀ H, Rep K ca H v k_MOST_AT_A_BOX)
    (u3 : PySem.W.nsIn K mainGlobals "MOST_BOXES" = some (some cv3)) (v3 : ∀ ca : Str → Addr, ∃ v : V, RelV v cv3 ∧ ∀ H, Rep K ca H v k_MOST_BOXES)
    (u4 : PySem.W.nsIn K mainGlobals "MOST_CALLS" = some (some cv4)) (v4 : ∀ ca : Str → Addr, ∃ v : V, RelV v cv4 ∧ ∀ H, Rep K ca H v k_MOST_CALLS)
    (z0 : PySem.W.nsIn K mainGlobals "all" = some none)
    (z1 : PySem.W.nsIn K mainGlobals "any" = some none)
    (z2 : PySem.W.nsIn K mainGlobals "bool" = some none)
    (z3 : PySem.W.nsIn K mainGlobals "enumerate" = some none)
    (z4 : PySem.W.nsIn K mainGlobals "int" = some none)
    (z5 : PySem.W.nsIn K mainGlobals "isinstance" = some none)
    (z6 : PySem.W.nsIn K mainGlobals "len" = some none)
    (z7 : PySem.W.nsIn K mainGlobals "list" = some none)
    (z8 : PySem.W.nsIn K mainGlobals "max" = some none)
    (z9 : PySem.W.nsIn K mainGlobals "min" = some none)
    (z10 : PySem.W.nsIn K mainGlobals "range" = some none)
    (z11 : PySem.W.nsIn K mainGlobals "sorted" = some none)
    (z12 : PySem.W.nsIn K mainGlobals "sum" = some none)
    (z13 : PySem.W.nsIn K mainGlobals "tuple" = some none)
    (e0 : PySem.W.nsIn K mainGlobals "NoBoard" = some (some (.ref C0))) (ea0 : PySem.W.excIn K C0 [.type "ValueError", .type "Exception", .type "BaseException", .type "object"] "ValueError.__new__" = true) (eb0 : PySem.W.keepIn K (.ref C0) = true) (ec0 : PySem.W.subIn K (.ref C0) (.type "BaseException") = some true) (ed0 : PySem.W.typeIn K (.ref C0) = some (.type "type"))
    (e1 : PySem.W.nsIn K mainGlobals "NoCalls" = some (some (.ref C1))) (ea1 : PySem.W.excIn K C1 [.type "ValueError", .type "Exception", .type "BaseException", .type "object"] "ValueError.__new__" = true) (eb1 : PySem.W.keepIn K (.ref C1) = true) (ec1 : PySem.W.subIn K (.ref C1) (.type "BaseException") = some true) (ed1 : PySem.W.typeIn K (.ref C1) = some (.type "type"))
    : ∃ fd : FuncData, (∀ (s : Shared) (v : Value), BindsTo s fd ⟨[v], []⟩ [("_law_script", v)]) ∧ ∀ base : Heap, K.In base → base.Ns mainGlobals mg → FnOk P w K mg base (L2.CX P w) 10 fa fd ["_law_script"] (spL K) := by
  have e := hfa.symm.trans (PySem.W.mg_of X G a36)
  cases e
  obtain ⟨ca, hca⟩ : ∃ ca : Str → Addr, ca = (fun x : Str => if x = "NoBoard" then C0 else if x = "NoCalls" then C1 else 0) := ⟨_, rfl⟩
  have h0 : ca "NoBoard" = C0 := by rw [hca]; exact if_pos rfl
  have h1 : ca "NoCalls" = C1 := by rw [hca]; exact (if_neg (by decide +kernel)).trans (if_pos rfl)
  have T : Txt K mg ca := { b_all := PySem.W.mg_none_of X G z0, b_any := PySem.W.mg_none_of X G z1, b_bool := PySem.W.mg_none_of X G z2, b_enumerate := PySem.W.mg_none_of X G z3, b_int := PySem.W.mg_none_of X G z4, b_isinstance := PySem.W.mg_none_of X G z5, b_len := PySem.W.mg_none_of X G z6, b_list := PySem.W.mg_none_of X G z7, b_max := PySem.W.mg_none_of X G z8, b_min := PySem.W.mg_none_of X G z9, b_range := PySem.W.mg_none_of X G z10, b_sorted := PySem.W.mg_none_of X G z11, b_sum := PySem.W.mg_none_of X G z12, b_tuple := PySem.W.mg_none_of X G z13, g_CALL_PARTS := let ⟨v, r1, r2⟩ := v0 ca; ⟨cv0, v, PySem.W.mg_of X G u0, r1, r2⟩, g_HANDS := let ⟨v, r1, r2⟩ := v1 ca; ⟨cv1, v, PySem.W.mg_of X G u1, r1, r2⟩, g_MOST_AT_A_BOX := let ⟨v, r1, r2⟩ := v2 ca; ⟨cv2, v, PySem.W.mg_of X G u2, r1, r2⟩, g_MOST_BOXES := let ⟨v, r1, r2⟩ := v3 ca; ⟨cv3, v, PySem.W.mg_of X G u3, r1, r2⟩, g_MOST_CALLS := let ⟨v, r1, r2⟩ := v4 ca; ⟨cv4, v, PySem.W.mg_of X G u4, r1, r2⟩, x_NoBoard := ⟨by rw [h0]; exact ea0, by rw [h0]; exact PySem.W.mg_of X G e0, by rw [h0]; exact eb0, by rw [h0]; exact ec0, by rw [h0]; exact ed0⟩, x_NoCalls := ⟨by rw [h1]; exact ea1, by rw [h1]; exact PySem.W.mg_of X G e1, by rw [h1]; exact eb1, by rw [h1]; exact ec1, by rw [h1]; exact ed1⟩ }
  refine ⟨PySem.W.fnOf "law" "law" (defArgs s_law) (defBody s_law) (defScope s_law) .none kV36 dc36 pm36 an36 cd36 ct36, fun s v => .of_eq rfl, fun base _ _ => ?_⟩
  have G_is_whole := ok_is_whole (P := P) (w := w) (base := base) T (fun_mk (st := s_is_whole) l0 c0 k0) (PySem.W.mg_of X G a0) 
  have G_is_row_of := ok_is_row_of (P := P) (w := w) (base := base) T (fun_mk (st := s_is_row_of) l1 c1 k1) (PySem.W.mg_of X G a1) 
  have G_is_end := ok_is_end (P := P) (w := w) (base := base) T (fun_mk (st := s_is_end) l2 c2 k2) (PySem.W.mg_of X G a2) G_is_whole
  have G_is_deed := ok_is_deed (P := P) (w := w) (base := base) T (fun_mk (st := s_is_deed) l3 c3 k3) (PySem.W.mg_of X G a3) G_is_whole G_is_row_of G_is_end
  have G_put_through := ok_put_through (P := P) (w := w) (base := base) T (fun_mk (st := s_put_through) l4 c4 k4) (PySem.W.mg_of X G a4) 
  have G_is_board := ok_is_board (P := P) (w := w) (base := base) T (fun_mk (st := s_is_board) l5 c5 k5) (PySem.W.mg_of X G a5) G_is_whole
  have G_want_board := ok_want_board (P := P) (w := w) (base := base) T (fun_mk (st := s_want_board) l6 c6 k6) (PySem.W.mg_of X G a6) G_is_board
  have G_is_ask := ok_is_ask (P := P) (w := w) (base := base) T (fun_mk (st := s_is_ask) l7 c7 k7) (PySem.W.mg_of X G a7) G_is_whole G_is_deed
  have G_are_times := ok_are_times (P := P) (w := w) (base := base) T (fun_mk (st := s_are_times) l8 c8 k8) (PySem.W.mg_of X G a8) G_is_whole
  have G_is_call := ok_is_call (P := P) (w := w) (base := base) T (fun_mk (st := s_is_call) l9 c9 k9) (PySem.W.mg_of X G a9) G_is_whole G_is_ask G_are_times
  have G_numbers_at := ok_numbers_at (P := P) (w := w) (base := base) T (fun_mk (st := s_numbers_at) l10 c10 k10) (PySem.W.mg_of X G a10) 
  have G_are_calls := ok_are_calls (P := P) (w := w) (base := base) T (fun_mk (st := s_are_calls) l11 c11 k11) (PySem.W.mg_of X G a11) G_want_board G_is_call G_numbers_at
  have G_want_calls := ok_want_calls (P := P) (w := w) (base := base) T (fun_mk (st := s_want_calls) l12 c12 k12) (PySem.W.mg_of X G a12) G_are_calls
  have G_are_numbers_of := ok_are_numbers_of (P := P) (w := w) (base := base) T (fun_mk (st := s_are_numbers_of) l13 c13 k13) (PySem.W.mg_of X G a13) G_is_whole
  have G_is_ahead := ok_is_ahead (P := P) (w := w) (base := base) T (fun_mk (st := s_is_ahead) l14 c14 k14) (PySem.W.mg_of X G a14) 
  have G_keeps_ahead := ok_keeps_ahead (P := P) (w := w) (base := base) T (fun_mk (st := s_keeps_ahead) l15 c15 k15) (PySem.W.mg_of X G a15) 
  have G_answers_so := ok_answers_so (P := P) (w := w) (base := base) T (fun_mk (st := s_answers_so) l16 c16 k16) (PySem.W.mg_of X G a16) G_put_through
  have G_fits := ok_fits (P := P) (w := w) (base := base) T (fun_mk (st := s_fits) l17 c17 k17) (PySem.W.mg_of X G a17) G_want_calls G_are_numbers_of G_keeps_ahead G_answers_so
  have G_may_be_next := ok_may_be_next (P := P) (w := w) (base := base) T (fun_mk (st := s_may_be_next) l18 c18 k18) (PySem.W.mg_of X G a18) G_is_ahead
  have G_next_states := ok_next_states (P := P) (w := w) (base := base) T (fun_mk (st := s_next_states) l19 c19 k19) (PySem.W.mg_of X G a19) G_put_through G_may_be_next
  have G_row_to := ok_row_to (P := P) (w := w) (base := base) T (fun_mk (st := s_row_to) l20 c20 k20) (PySem.W.mg_of X G a20) 
  have G_order_at := ok_order_at (P := P) (w := w) (base := base) T (fun_mk (st := s_order_at) l21 c21 k21) (PySem.W.mg_of X G a21) G_next_states G_row_to
  have G_box_orders := ok_box_orders (P := P) (w := w) (base := base) T (fun_mk (st := s_box_orders) l22 c22 k22) (PySem.W.mg_of X G a22) G_numbers_at G_order_at
  have G_laid_together := ok_laid_together (P := P) (w := w) (base := base) T (fun_mk (st := s_laid_together) l23 c23 k23) (PySem.W.mg_of X G a23) G_is_ahead
  have G_an_order := ok_an_order (P := P) (w := w) (base := base) T (fun_mk (st := s_an_order) l24 c24 k24) (PySem.W.mg_of X G a24) G_want_calls G_box_orders G_laid_together
  have G__law_at := ok__law_at (P := P) (w := w) (base := base) T (fun_mk (st := s__law_at) l25 c25 k25) (PySem.W.mg_of X G a25) 
  have G__law_pot := ok__law_pot (P := P) (w := w) (base := base) T (fun_mk (st := s__law_pot) l26 c26 k26) (PySem.W.mg_of X G a26) G__law_at
  have G__law_take := ok__law_take (P := P) (w := w) (base := base) T (fun_mk (st := s__law_take) l27 c27 k27) (PySem.W.mg_of X G a27) 
  have G__law_done := ok__law_done (P := P) (w := w) (base := base) T (fun_mk (st := s__law_done) l28 c28 k28) (PySem.W.mg_of X G a28) 
  have G__law_is_order := ok__law_is_order (P := P) (w := w) (base := base) T (fun_mk (st := s__law_is_order) l29 c29 k29) (PySem.W.mg_of X G a29) 
  have G__law_keeps := ok__law_keeps (P := P) (w := w) (base := base) T (fun_mk (st := s__law_keeps) l30 c30 k30) (PySem.W.mg_of X G a30) 
  have G__law_answers := ok__law_answers (P := P) (w := w) (base := base) T (fun_mk (st := s__law_answers) l31 c31 k31) (PySem.W.mg_of X G a31) G__law_done
  have G__law_fits := ok__law_fits (P := P) (w := w) (base := base) T (fun_mk (st := s__law_fits) l32 c32 k32) (PySem.W.mg_of X G a32) G__law_is_order G__law_keeps G__law_answers
  have G__law_call := ok__law_call (P := P) (w := w) (base := base) T (fun_mk (st := s__law_call) l33 c33 k33) (PySem.W.mg_of X G a33) G__law_take
  have G__law_all := ok__law_all (P := P) (w := w) (base := base) T (fun_mk (st := s__law_all) l34 c34 k34) (PySem.W.mg_of X G a34) 
  have G__law_right := ok__law_right (P := P) (w := w) (base := base) T (fun_mk (st := s__law_right) l35 c35 k35) (PySem.W.mg_of X G a35) G_fits G_an_order G__law_fits G__law_all
  exact fn_spL hm (fn_law T (fun_mk (st := s_law) l36 c36 k36) G__law_pot G__law_take G__law_call G__law_right)
end K74
open PySem PySem.W PyProof.Rows in
set_option maxRecDepth 100000 in
set_option maxHeartbeats 0 in
theorem PySem.Challenge.cw_joinedasks_k74_whole_none_where_none_fit_holds : PySem.Challenge.rw_joinedasks_k74_whole_none_where_none_fit.Holds := by
  w_on; o_law; k_head; (case hw => w_witness2)
  k_fill
  refine Mir.walk_ofC (l := PySem.Challenge.rw_joinedasks_k74_whole_none_where_none_fit) (k := 10) (x := "_law_script") rfl rfl ⟨rfl, by decide, by decide⟩ (fun w h Y => PySem.W.kIn_of Y) ?F
  case F =>
    intro w mg fa h KX G hmg
    refine' K74.all_mk (fun ns h => K74.main_law ns h) KX G hmg ?a0 ?l0 ?c0 ?k0 ?a1 ?l1 ?c1 ?k1 ?a2 ?l2 ?c2 ?k2 ?a3 ?l3 ?c3 ?k3 ?a4 ?l4 ?c4 ?k4 ?a5 ?l5 ?c5 ?k5 ?a6 ?l6 ?c6 ?k6 ?a7 ?l7 ?c7 ?k7 ?a8 ?l8 ?c8 ?k8 ?a9 ?l9 ?c9 ?k9 ?a10 ?l10 ?c10 ?k10 ?a11 ?l11 ?c11 ?k11 ?a12 ?l12 ?c12 ?k12 ?a13 ?l13 ?c13 ?k13 ?a14 ?l14 ?c14 ?k14 ?a15 ?l15 ?c15 ?k15 ?a16 ?l16 ?c16 ?k16 ?a17 ?l17 ?c17 ?k17 ?a18 ?l18 ?c18 ?k18 ?a19 ?l19 ?c19 ?k19 ?a20 ?l20 ?c20 ?k20 ?a21 ?l21 ?c21 ?k21 ?a22 ?l22 ?c22 ?k22 ?a23 ?l23 ?c23 ?k23 ?a24 ?l24 ?c24 ?k24 ?a25 ?l25 ?c25 ?k25 ?a26 ?l26 ?c26 ?k26 ?a27 ?l27 ?c27 ?k27 ?a28 ?l28 ?c28 ?k28 ?a29 ?l29 ?c29 ?k29 ?a30 ?l30 ?c30 ?k30 ?a31 ?l31 ?c31 ?k31 ?a32 ?l32 ?c32 ?k32 ?a33 ?l33 ?c33 ?k33 ?a34 ?l34 ?c34 ?k34 ?a35 ?l35 ?c35 ?k35 ?a36 ?l36 ?c36 ?k36 ?u0 ?v0 ?u1 ?v1 ?u2 ?v2 ?u3 ?v3 ?u4 ?v4 ?z0 ?z1 ?z2 ?z3 ?z4 ?z5 ?z6 ?z7 ?z8 ?z9 ?z10 ?z11 ?z12 ?z13 ?e0 ?ea0 ?eb0 ?ec0 ?ed0 ?e1 ?ea1 ?eb1 ?ec1 ?ed1
    (case a0 => k_is)
    (case l0 => k_is)
    (case c0 => k_is)
    (case k0 => k_is)
    (case a1 => k_is)
    (case l1 => k_is)
    (case c1 => k_is)
    (case k1 => k_is)
    (case a2 => k_is)
    (case l2 => k_is)
    (case c2 => k_is)
    (case k2 => k_is)
    (case a3 => k_is)
    (case l3 => k_is)
    (case c3 => k_is)
    (case k3 => k_is)
    (case a4 => k_is)
    (case l4 => k_is)
    (case c4 => k_is)
    (case k4 => k_is)
    (case a5 => k_is)
    (case l5 => k_is)
    (case c5 => k_is)
    (case k5 => k_is)
    (case a6 => k_is)
    (case l6 => k_is)
    (case c6 => k_is)
    (case k6 => k_is)
    (case a7 => k_is)
    (case l7 => k_is)
    (case c7 => k_is)
    (case k7 => k_is)
    (case a8 => k_is)
    (case l8 => k_is)
    (case c8 => k_is)
    (case k8 => k_is)
    (case a9 => k_is)
    (case l9 => k_is)
    (case c9 => k_is)
    (case k9 => k_is)
    (case a10 => k_is)
    (case l10 => k_is)
    (case c10 => k_is)
    (case k10 => k_is)
    (case a11 => k_is)
    (case l11 => k_is)
    (case c11 => k_is)
    (case k11 => k_is)
    (case a12 => k_is)
    (case l12 => k_is)
    (case c12 => k_is)
    (case k12 => k_is)
    (case a13 => k_is)
    (case l13 => k_is)
    (case c13 => k_is)
    (case k13 => k_is)
    (case a14 => k_is)
    (case l14 => k_is)
    (case c14 => k_is)
    (case k14 => k_is)
    (case a15 => k_is)
    (case l15 => k_is)
    (case c15 => k_is)
    (case k15 => k_is)
    (case a16 => k_is)
    (case l16 => k_is)
    (case c16 => k_is)
    (case k16 => k_is)
    (case a17 => k_is)
    (case l17 => k_is)
    (case c17 => k_is)
    (case k17 => k_is)
    (case a18 => k_is)
    (case l18 => k_is)
    (case c18 => k_is)
    (case k18 => k_is)
    (case a19 => k_is)
    (case l19 => k_is)
    (case c19 => k_is)
    (case k19 => k_is)
    (case a20 => k_is)
    (case l20 => k_is)
    (case c20 => k_is)
    (case k20 => k_is)
    (case a21 => k_is)
    (case l21 => k_is)
    (case c21 => k_is)
    (case k21 => k_is)
    (case a22 => k_is)
    (case l22 => k_is)
    (case c22 => k_is)
    (case k22 => k_is)
    (case a23 => k_is)
    (case l23 => k_is)
    (case c23 => k_is)
    (case k23 => k_is)
    (case a24 => k_is)
    (case l24 => k_is)
    (case c24 => k_is)
    (case k24 => k_is)
    (case a25 => k_is)
    (case l25 => k_is)
    (case c25 => k_is)
    (case k25 => k_is)
    (case a26 => k_is)
    (case l26 => k_is)
    (case c26 => k_is)
    (case k26 => k_is)
    (case a27 => k_is)
    (case l27 => k_is)
    (case c27 => k_is)
    (case k27 => k_is)
    (case a28 => k_is)
    (case l28 => k_is)
    (case c28 => k_is)
    (case k28 => k_is)
    (case a29 => k_is)
    (case l29 => k_is)
    (case c29 => k_is)
    (case k29 => k_is)
    (case a30 => k_is)
    (case l30 => k_is)
    (case c30 => k_is)
    (case k30 => k_is)
    (case a31 => k_is)
    (case l31 => k_is)
    (case c31 => k_is)
    (case k31 => k_is)
    (case a32 => k_is)
    (case l32 => k_is)
    (case c32 => k_is)
    (case k32 => k_is)
    (case a33 => k_is)
    (case l33 => k_is)
    (case c33 => k_is)
    (case k33 => k_is)
    (case a34 => k_is)
    (case l34 => k_is)
    (case c34 => k_is)
    (case k34 => k_is)
    (case a35 => k_is)
    (case l35 => k_is)
    (case c35 => k_is)
    (case k35 => k_is)
    (case a36 => k_is)
    (case l36 => k_is)
    (case c36 => k_is)
    (case k36 => k_is)
    (case u0 => k_is)
    (case v0 => exact fun ca => Mir.cv_int)
    (case u1 => k_is)
    (case v1 => exact fun ca => Mir.cv_int)
    (case u2 => k_is)
    (case v2 => exact fun ca => Mir.cv_int)
    (case u3 => k_is)
    (case v3 => exact fun ca => Mir.cv_int)
    (case u4 => k_is)
    (case v4 => exact fun ca => Mir.cv_int)
    (case z0 => k_is)
    (case z1 => k_is)
    (case z2 => k_is)
    (case z3 => k_is)
    (case z4 => k_is)
    (case z5 => k_is)
    (case z6 => k_is)
    (case z7 => k_is)
    (case z8 => k_is)
    (case z9 => k_is)
    (case z10 => k_is)
    (case z11 => k_is)
    (case z12 => k_is)
    (case z13 => k_is)
    (case e0 => k_is)
    (case ea0 => kernel_rfl)
    (case eb0 => k_is)
    (case ec0 => k_is)
    (case ed0 => k_is)
    (case e1 => k_is)
    (case ea1 => kernel_rfl)
    (case eb1 => k_is)
    (case ec1 => k_is)
    (case ed1 => k_is)
