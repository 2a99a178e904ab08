import PyProof.Rows.All
import HandS.ForMost
import HandS.TupAny
import HandS.TupMul
import HandS.IsInst
import HandS.Wide
import HandS.Flow
import HandS.Star
import HandS.TupLe
import PySem.Challenge.RW_oncework_k00_whole_terms_and_their_parts
set_option Elab.async false
set_option linter.all false
set_option maxRecDepth 100000
set_option maxHeartbeats 4000000
namespace PL
open PySem L2

/-! ## plain data -/
inductive D where
  | non | bl (b : Bool) | int (i : Int) | str (x : Str)
  | tup (xs : List D) | lst (xs : List D) | rol (xs : List D)
  | dK (es : List (Key × D)) | dT (es : List (List Key × D)) | set (S : Int → Bool) (n : Nat)
  | oth (v : V)

mutual
inductive Rep (K : PySem.W.Frag) (F : Hp) : V → D → Prop
  | non : Rep K F .non .non
  | bl (b : Bool) : Rep K F (.bl b) (.bl b)
  | int (i : Int) : Rep K F (.int i) (.int i)
  | str (x : Str) : Rep K F (.str x) (.str x)
  | tup {a : Addr} {xs : List V} {ds : List D} : SqT K F a xs → RepL K F xs ds → Rep K F (.ref a) (.tup ds)
  | lst {a : Addr} {xs : List V} {ds : List D} : F a = some (.lst xs) → RepL K F xs ds → Rep K F (.ref a) (.lst ds)
  | rol {a : Addr} {xs : List V} {ds : List D} : SqL K F a xs → RepL K F xs ds → Rep K F (.ref a) (.rol ds)
  | dK {a : Addr} {kvs : List (Key × V)} {es : List (Key × D)} : F a = some (.dK kvs) → kvs.map (·.1) = es.map (·.1) → RepL K F (kvs.map (·.2)) (es.map (·.2)) → Rep K F (.ref a) (.dK es)
  | dT {a : Addr} {kvs : List (List Key × V)} {es : List (List Key × D)} : F a = some (.dT kvs) → kvs.map (·.1) = es.map (·.1) → RepL K F (kvs.map (·.2)) (es.map (·.2)) → Rep K F (.ref a) (.dT es)
  | set {a : Addr} {S : Int → Bool} {n : Nat} : F a = some (.set S n) → Rep K F (.ref a) (.set S n)
  | oth (v : V) : Rep K F v (.oth v)
inductive RepL (K : PySem.W.Frag) (F : Hp) : List V → List D → Prop
  | nil : RepL K F [] []
  | cons {v : V} {vs : List V} {d : D} {ds : List D} : Rep K F v d → RepL K F vs ds → RepL K F (v :: vs) (d :: ds)
end

theorem Same.seqT {K : PySem.W.Frag} {H H' : Hp} {a : Addr} {xs : List V} (e : Same H H') (h : SqT K H a xs) : SqT K H' a xs := by
  rcases h with (h | ⟨o, h⟩) | h
  · exact .inl (.inl (e _ _ h))
  · exact .inl (.inr ⟨o, e _ _ h⟩)
  · exact .inr h

section
variable {K : PySem.W.Frag} {F F' : Hp}
mutual
theorem Rep.mono (e : Same F F') : ∀ {v : V} {d : D}, Rep K F v d → Rep K F' v d
  | _, _, .non => .non
  | _, _, .bl b => .bl b
  | _, _, .int i => .int i
  | _, _, .str x => .str x
  | _, _, .tup h t => .tup (Same.seqT e h) (RepL.mono e t)
  | _, _, .lst h t => .lst (e _ _ h) (RepL.mono e t)
  | _, _, .rol h t => .rol (e.seq h) (RepL.mono e t)
  | _, _, .dK h k t => .dK (e _ _ h) k (RepL.mono e t)
  | _, _, .dT h k t => .dT (e _ _ h) k (RepL.mono e t)
  | _, _, .set h => .set (e _ _ h)
  | _, _, .oth v => .oth v
theorem RepL.mono (e : Same F F') : ∀ {vs : List V} {ds : List D}, RepL K F vs ds → RepL K F' vs ds
  | _, _, .nil => .nil
  | _, _, .cons h t => .cons (Rep.mono e h) (RepL.mono e t)
end
theorem RepL.length : ∀ {vs : List V} {ds : List D}, RepL K F vs ds → vs.length = ds.length
  | _, _, .nil => rfl
  | _, _, .cons _ t => by rw [List.length_cons, List.length_cons, RepL.length t]
theorem RepL.get : ∀ {vs : List V} {ds : List D} {i : Nat} {d : D}, RepL K F vs ds → ds[i]? = some d → ∃ v, vs[i]? = some v ∧ Rep K F v d
  | _, _, _, _, .nil, e => by simp at e
  | _, _, 0, _, .cons h _, e => by simp at e; subst e; exact ⟨_, rfl, h⟩
  | _, _, i + 1, d, .cons _ t, e => by
    obtain ⟨v, h1, h2⟩ := RepL.get (i := i) (d := d) t (by simpa using e)
    exact ⟨v, by simpa using h1, h2⟩
theorem RepL.getV : ∀ {vs : List V} {ds : List D} {i : Nat} {v : V}, RepL K F vs ds → vs[i]? = some v → ∃ d, ds[i]? = some d ∧ Rep K F v d
  | _, _, _, _, .nil, e => by simp at e
  | _, _, 0, _, .cons h _, e => by simp at e; subst e; exact ⟨_, rfl, h⟩
  | _, _, i + 1, d, .cons _ t, e => by
    obtain ⟨v, h1, h2⟩ := RepL.getV (i := i) (v := d) t (by simpa using e)
    exact ⟨v, by simpa using h1, h2⟩
theorem RepL.set {v : V} {d : D} (r : Rep K F v d) : ∀ {vs : List V} {ds : List D} (i : Nat), RepL K F vs ds → RepL K F (vs.set i v) (ds.set i d)
  | _, _, _, .nil => .nil
  | _, _, 0, .cons _ t => .cons r t
  | _, _, i + 1, .cons q t => .cons q (RepL.set r i t)
theorem RepL.append : ∀ {vs ws : List V} {ds es : List D}, RepL K F vs ds → RepL K F ws es → RepL K F (vs ++ ws) (ds ++ es)
  | _, _, _, _, .nil, s => s
  | _, _, _, _, .cons r t, s => .cons r (RepL.append t s)
theorem RepL.take : ∀ {vs : List V} {ds : List D} (n : Nat), RepL K F vs ds → RepL K F (vs.take n) (ds.take n)
  | _, _, 0, _ => .nil
  | _, _, _ + 1, .nil => .nil
  | _, _, n + 1, .cons r t => .cons r (RepL.take n t)
theorem RepL.drop : ∀ {vs : List V} {ds : List D} (n : Nat), RepL K F vs ds → RepL K F (vs.drop n) (ds.drop n)
  | _, _, 0, r => r
  | _, _, _ + 1, .nil => .nil
  | _, _, n + 1, .cons _ t => RepL.drop n t
theorem RepL.one {v : V} {d : D} (h : Rep K F v d) : RepL K F [v] [d] := .cons h .nil
theorem RepL.snoc {vs : List V} {ds : List D} {v : V} {d : D} (t : RepL K F vs ds) (h : Rep K F v d) : RepL K F (vs ++ [v]) (ds ++ [d]) := t.append (.one h)
theorem RepL.dropLast : ∀ {vs : List V} {ds : List D}, RepL K F vs ds → RepL K F vs.dropLast ds.dropLast
  | _, _, .nil => .nil
  | _, _, .cons _ .nil => .nil
  | _, _, .cons h (.cons h2 t) => .cons h (RepL.dropLast (.cons h2 t))
theorem RepL.reverse : ∀ {vs : List V} {ds : List D}, RepL K F vs ds → RepL K F vs.reverse ds.reverse
  | _, _, .nil => .nil
  | _, _, .cons h t => by rw [List.reverse_cons, List.reverse_cons]; exact (RepL.reverse t).snoc h
theorem RepL.rep {vs : List V} {ds : List D} (h : RepL K F vs ds) : ∀ k : Nat, RepL K F (List.replicate k vs).flatten (List.replicate k ds).flatten
  | 0 => .nil
  | k + 1 => by rw [List.replicate_succ, List.replicate_succ, List.flatten_cons, List.flatten_cons]; exact h.append (RepL.rep h k)
theorem RepL.erase : ∀ {vs : List V} {ds : List D} (i : Nat), RepL K F vs ds → RepL K F (vs.eraseIdx i) (ds.eraseIdx i)
  | _, _, _, .nil => .nil
  | _, _, 0, .cons _ t => t
  | _, _, i + 1, .cons h t => .cons h (RepL.erase i t)
theorem Same.upd {H : Hp} {p : Addr} {o : HO} (h : H p = none) : Same H (upd H p o) := fun b x e => by
  rw [upd_ne (ne_of_none e h)]
  exact e
theorem Same.upd2 {F H : Hp} {p : Addr} {o : HO} (e : Same F H) : Same (L2.upd F p o) (L2.upd H p o) := fun b x h => by
  by_cases hb : b = p
  · subst hb; rw [upd_same] at h ⊢; exact h
  · rw [upd_ne hb] at h ⊢; exact e b x h

/-! ## slots, results -/
inductive Sl where
  | no | fz (d : D) | ow (d : D) | io (d : D)
abbrev Env := List Sl
inductive Rv where
  | val (d : D) | bor (i : Nat) | new (d : D)
/-- an exception: its class, what it keeps -/
structure Ex where
  cls : Str
  kept : Option D
inductive Res (α : Type) where
  | ok (a : α) (e : Env) | exc (x : Ex) (e : Env)
abbrev M (α : Type) := Env → Option (Res α)
abbrev ME := M Rv
inductive Fl where
  | nx | rt (z : Bool × D) | bk | ct
abbrev MS := M Fl

/-- what an object of one's own holds -/
def OwnAt (K : PySem.W.Frag) (F H : Hp) (a : Addr) (d : D) : Prop :=
  F a = none ∧ match d with
  | .lst ds => ∃ xs, H a = some (.lst xs) ∧ RepL K F xs ds
  | .dK es => ∃ kvs, H a = some (.dK kvs) ∧ kvs.map (·.1) = es.map (·.1) ∧ RepL K F (kvs.map (·.2)) (es.map (·.2))
  | .dT es => ∃ kvs, H a = some (.dT kvs) ∧ kvs.map (·.1) = es.map (·.1) ∧ RepL K F (kvs.map (·.2)) (es.map (·.2))
  | .set S n => H a = some (.set S n)
  | _ => False
theorem OwnAt.there {H : Hp} {a : Addr} {d : D} (h : OwnAt K F H a d) : H a ≠ none := by
  obtain ⟨_, h⟩ := h
  cases d with
  | lst ds => obtain ⟨xs, e, _⟩ := h; rw [e]; exact fun z => nomatch z
  | dK es => obtain ⟨xs, e, _⟩ := h; rw [e]; exact fun z => nomatch z
  | dT es => obtain ⟨xs, e, _⟩ := h; rw [e]; exact fun z => nomatch z
  | set S n => have h : H a = _ := h; rw [h]; exact fun z => nomatch z
  | _ => exact h.elim
/-- the object stands as it did; what it holds stands too -/
theorem OwnAt.keep {H H' : Hp} {a : Addr} {d : D} (h : OwnAt K F H a d) (e : Same F F') (n : F' a = none) (k : ∀ o, H a = some o → H' a = some o) : OwnAt K F' H' a d := by
  obtain ⟨_, h⟩ := h
  refine ⟨n, ?_⟩
  cases d with
  | lst ds => obtain ⟨xs, q, r⟩ := h; exact ⟨xs, k _ q, r.mono e⟩
  | dK es => obtain ⟨xs, q, r, t⟩ := h; exact ⟨xs, k _ q, r, t.mono e⟩
  | dT es => obtain ⟨xs, q, r, t⟩ := h; exact ⟨xs, k _ q, r, t.mono e⟩
  | set S n => exact k _ h
  | _ => exact h.elim
/-- frozen, it is plain data -/
theorem OwnAt.freeze {H : Hp} {a : Addr} {d : D} (h : OwnAt K F H a d) : ∃ o, H a = some o ∧ Rep K (L2.upd F a o) (.ref a) d := by
  obtain ⟨n, h⟩ := h
  have s : ∀ o, Same F (L2.upd F a o) := fun o => Same.upd n
  cases d with
  | lst ds => obtain ⟨xs, q, r⟩ := h; exact ⟨_, q, .lst upd_same (r.mono (s _))⟩
  | dK es => obtain ⟨xs, q, r, t⟩ := h; exact ⟨_, q, .dK upd_same r (t.mono (s _))⟩
  | dT es => obtain ⟨xs, q, r, t⟩ := h; exact ⟨_, q, .dT upd_same r (t.mono (s _))⟩
  | set S m => exact ⟨_, h, .set upd_same⟩
  | _ => exact h.elim

/-- the entry of the def whose body runs: frozen heap, heap, the handed objects (slot, address) -/
structure Ent where
  F0 : Hp
  H0 : Hp
  M0 : List (Nat × Addr)

def owned : Option Sl → Option D
  | some (.ow d) => some d
  | some (.io d) => some d
  | _ => none
/-- the slot i holds the object at a, its own -/
def OwnSl (σ : L2.St) (env : Env) (i : Nat) (a : Addr) : Prop := (owned env[i]?).isSome = true ∧ σ[i]? = some (some (.ref a))
def Owner (σ : L2.St) (env : Env) (a : Addr) : Prop := ∃ i, OwnSl σ env i a

structure SR (K : PySem.W.Frag) (N : Ent) (F H : Hp) (σ : L2.St) (env : Env) : Prop where
  fh : Same F H
  len : env.length = σ.length
  fz : ∀ (i : Nat) (d : D), env[i]? = some (.fz d) → ∃ v, σ[i]? = some (some v) ∧ Rep K F v d
  ow : ∀ (i : Nat) (d : D), env[i]? = some (.ow d) → ∃ a, σ[i]? = some (some (.ref a)) ∧ OwnAt K F H a d ∧ N.H0 a = none
  io : ∀ (i : Nat) (d : D), env[i]? = some (.io d) → ∃ a, σ[i]? = some (some (.ref a)) ∧ OwnAt K F H a d ∧ (i, a) ∈ N.M0
  iok : ∀ p ∈ N.M0, ∃ d, env[p.1]? = some (.io d) ∧ σ[p.1]? = some (some (.ref p.2))
  inj : ∀ (i j : Nat) (a : Addr), OwnSl σ env i a → OwnSl σ env j a → i = j
  st0 : Same N.F0 F
  st1 : ∀ a o, N.H0 a = some o → (∀ p ∈ N.M0, p.2 ≠ a) → H a = some o
  st2 : ∀ a, N.H0 a ≠ none → N.F0 a = none → F a = none
  st3 : ∀ a, N.H0 a ≠ none → H a ≠ none

/-- from one state to another while an expression runs -/
structure Ev (K : PySem.W.Frag) (N : Ent) (σ : L2.St) (F H : Hp) (env : Env) (F' H' : Hp) (env' : Env) : Prop where
  sr : SR K N F' H' σ env'
  ff : Same F F'
  k1 : ∀ a o, H a = some o → ¬ Owner σ env a → H' a = some o
  k2 : ∀ a, H a ≠ none → F a = none → ¬ Owner σ env a → F' a = none
  k3 : ∀ a, H a ≠ none → H' a ≠ none
  k4 : ∀ a, Owner σ env' a → Owner σ env a
  k5 : ∀ (i : Nat) (d : D), env[i]? = some (.fz d) → env'[i]? = some (.fz d)
  k6 : ∀ (i : Nat) (d : D), owned env[i]? = some d → ∃ d', owned env'[i]? = some d' ∨ env'[i]? = some (.fz d')

def RepV (K : PySem.W.Frag) (N : Ent) (F H : Hp) (σ : L2.St) (env : Env) : Rv → V → Prop
  | .val d, v => Rep K F v d
  | .bor i, v => σ[i]? = some (some v) ∧ ∃ d, owned env[i]? = some d ∨ env[i]? = some (.fz d)
  | .new d, v => ∃ a, v = .ref a ∧ OwnAt K F H a d ∧ N.H0 a = none ∧ ¬ Owner σ env a
/-- a new object was not there ahead -/
def Fresh (H : Hp) : Rv → V → Prop
  | .new _, v => ∃ a, v = .ref a ∧ H a = none
  | _, _ => True
end

section
variable {K : PySem.W.Frag} {N : Ent} {σ : L2.St} {F H F1 H1 F2 H2 : Hp} {env env1 env2 : Env}
theorem Ev.refl (s : SR K N F H σ env) : Ev K N σ F H env F H env :=
  ⟨s, fun _ _ h => h, fun _ _ h _ => h, fun _ _ h _ => h, fun _ h => h, fun _ h => h, fun _ _ h => h, fun _ d h => ⟨d, .inl h⟩⟩
theorem Ev.trans (a : Ev K N σ F H env F1 H1 env1) (b : Ev K N σ F1 H1 env1 F2 H2 env2) : Ev K N σ F H env F2 H2 env2 where
  sr := b.sr
  ff := a.ff.trans b.ff
  k1 := fun x o h n => b.k1 x o (a.k1 x o h n) fun z => n (a.k4 x z)
  k2 := fun x h f n => b.k2 x (a.k3 x h) (a.k2 x h f n) fun z => n (a.k4 x z)
  k3 := fun x h => b.k3 x (a.k3 x h)
  k4 := fun x h => a.k4 x (b.k4 x h)
  k5 := fun i d h => b.k5 i d (a.k5 i d h)
  k6 := fun i d h => by
    obtain ⟨d', q | q⟩ := a.k6 i d h
    · exact b.k6 i d' q
    · exact ⟨d', .inr (b.k5 i d' q)⟩
theorem RepV.ev {rv : Rv} {v : V} (r : RepV K N F H σ env rv v) (e : Ev K N σ F H env F1 H1 env1) : RepV K N F1 H1 σ env1 rv v := by
  cases rv with
  | val d => exact Rep.mono e.ff r
  | bor i =>
    obtain ⟨q, d, h | h⟩ := r
    · exact ⟨q, e.k6 i d h⟩
    · exact ⟨q, d, .inr (e.k5 i d h)⟩
  | new d =>
    obtain ⟨a, rfl, o, h0, n⟩ := r
    exact ⟨a, rfl, o.keep e.ff (e.k2 a o.there o.1 n) (fun u q => e.k1 a u q n), h0, fun z => n (e.k4 a z)⟩
theorem SR.fresh0 (s : SR K N F H σ env) {p : Addr} (h : H p = none) : N.H0 p = none := by
  cases q : N.H0 p with
  | none => rfl
  | some o => exact absurd h (s.st3 p (by rw [q]; exact fun z => nomatch z))
theorem SR.ownAt (s : SR K N F H σ env) {i : Nat} {d : D} (h : owned env[i]? = some d) : ∃ a, σ[i]? = some (some (.ref a)) ∧ OwnAt K F H a d ∧ OwnSl σ env i a := by
  cases q : env[i]? with
  | none => rw [q] at h; cases h
  | some x =>
    rw [q] at h
    cases x with
    | no => cases h
    | fz _ => cases h
    | ow e => cases h; obtain ⟨a, h1, h2, h3⟩ := s.ow i d q; exact ⟨a, h1, h2, by rw [q]; rfl, h1⟩
    | io e => cases h; obtain ⟨a, h1, h2, h3⟩ := s.io i d q; exact ⟨a, h1, h2, by rw [q]; rfl, h1⟩
theorem OwnSl.has (s : SR K N F H σ env) {i : Nat} {a : Addr} (h : OwnSl σ env i a) : ∃ d, owned env[i]? = some d ∧ OwnAt K F H a d := by
  obtain ⟨h1, h2⟩ := h
  obtain ⟨d, hd⟩ := Option.isSome_iff_exists.mp h1
  obtain ⟨b, e1, e2, e3⟩ := s.ownAt hd
  rw [h2] at e1
  cases e1
  exact ⟨d, hd, e2⟩
theorem Owner.there (s : SR K N F H σ env) {a : Addr} (h : Owner σ env a) : H a ≠ none ∧ F a = none := by
  obtain ⟨i, h⟩ := h
  obtain ⟨d, _, o⟩ := h.has s
  exact ⟨o.there, o.1⟩
theorem SR.notOwner (s : SR K N F H σ env) {p : Addr} (h : H p = none) : ¬ Owner σ env p := fun z => (z.there s).1 h

/-- the heaps grow alone -/
structure Grow (F H F' H' : Hp) : Prop where
  ff : Same F F'
  hh : Same H H'
  fh : Same F' H'
  k2 : ∀ a, H a ≠ none → F a = none → F' a = none
theorem Grow.refl (h : Same F H) : Grow F H F H := ⟨fun _ _ q => q, fun _ _ q => q, h, fun _ _ q => q⟩
theorem Grow.frozen (h : Same F H) {p : Addr} {o : HO} (n : H p = none) : Grow F H (upd F p o) (upd H p o) :=
  ⟨Same.upd (h.free n), Same.upd n, Same.upd2 h, fun a q f => by
    rw [upd_ne (fun z => q (by rw [z]; exact n))]; exact f⟩
theorem Grow.made (h : Same F H) {p : Addr} {o : HO} (n : H p = none) : Grow F H F (upd H p o) :=
  ⟨fun _ _ q => q, Same.upd n, h.trans (Same.upd n), fun a q f => f⟩
theorem Grow.ev (s : SR K N F H σ env) (g : Grow F H F1 H1) : Ev K N σ F H env F1 H1 env := by
  have keep : ∀ a d, OwnAt K F H a d → OwnAt K F1 H1 a d := fun a d o => o.keep g.ff (g.k2 a o.there o.1) fun u q => g.hh a u q
  refine ⟨⟨g.fh, s.len, fun i d h => ?_, fun i d h => ?_, fun i d h => ?_, s.iok, s.inj, s.st0.trans g.ff, fun a o h n => g.hh a o (s.st1 a o h n), fun a h f => g.k2 a (s.st3 a h) (s.st2 a h f), fun a h => ?_⟩,
    g.ff, fun a o h _ => g.hh a o h, fun a h f _ => g.k2 a h f, fun a h => ?_, fun _ h => h, fun _ _ h => h, fun _ d h => ⟨d, .inl h⟩⟩
  · obtain ⟨v, h1, h2⟩ := s.fz i d h; exact ⟨v, h1, h2.mono g.ff⟩
  · obtain ⟨a, h1, h2, h3⟩ := s.ow i d h; exact ⟨a, h1, keep a d h2, h3⟩
  · obtain ⟨a, h1, h2, h3⟩ := s.io i d h; exact ⟨a, h1, keep a d h2, h3⟩
  · cases q : H a with
    | none => exact absurd q (s.st3 a h)
    | some o => rw [g.hh a o q]; exact fun z => nomatch z
  · cases q : H a with
    | none => exact absurd q h
    | some o => rw [g.hh a o q]; exact fun z => nomatch z
end
end PL

namespace PL
open PySem L2
section
variable {K : PySem.W.Frag} {N : Ent} {σ : L2.St} {F H F1 H1 F2 H2 : Hp} {env env1 env2 : Env}
/-! ## further steps of the state -/
theorem owned_set {i j : Nat} {x : Sl} (h : j ≠ i) : owned (env.set i x)[j]? = owned env[j]? := by
  rw [List.getElem?_set_ne (Ne.symm h)]
/-- a slot's own object is frozen -/
theorem SR.freeze (s : SR K N F H σ env) {i : Nat} {d : D} {a : Addr} {o : HO} (h : env[i]? = some (.ow d)) (hs : σ[i]? = some (some (.ref a))) (ho : H a = some o) (r : Rep K (upd F a o) (.ref a) d) :
    Ev K N σ F H env (upd F a o) H (env.set i (.fz d)) := by
  obtain ⟨a', e1, oa, h0⟩ := s.ow i d h
  rw [hs] at e1
  cases e1
  have hi : OwnSl σ env i a := ⟨by rw [h]; rfl, hs⟩
  have sF : Same F (upd F a o) := Same.upd oa.1
  have lt : i < env.length := (List.getElem?_eq_some_iff.mp h).1
  have back : ∀ j b, OwnSl σ (env.set i (.fz d)) j b → j ≠ i ∧ OwnSl σ env j b := fun j b q => by
    by_cases hj : j = i
    · subst hj
      have q1 := q.1
      rw [List.getElem?_set_self lt] at q1
      cases q1
    · exact ⟨hj, by rw [← owned_set (x := .fz d) hj]; exact q.1, q.2⟩
  have neA : ∀ j b, j ≠ i → OwnSl σ env j b → b ≠ a := fun j b hj q z => hj (s.inj j i a (z ▸ q) hi)
  have own : ∀ j e b, j ≠ i → owned env[j]? = some e → σ[j]? = some (some (.ref b)) → OwnAt K F H b e → OwnAt K (upd F a o) H b e := fun j e b hj q1 q2 q3 =>
    q3.keep sF (by rw [upd_ne (neA j b hj ⟨by rw [q1]; rfl, q2⟩)]; exact q3.1) fun _ z => z
  refine ⟨⟨fun b x q => ?_, by rw [List.length_set]; exact s.len, fun j e q => ?_, fun j e q => ?_, fun j e q => ?_, fun p hp => ?_, fun j k b q1 q2 => ?_, s.st0.trans sF, s.st1, fun b q f => ?_, s.st3⟩, sF, fun b x q _ => q, fun b q f n => ?_, fun _ q => q, fun b ⟨j, q⟩ => ⟨j, (back j b q).2⟩, fun j e q => ?_, fun j e q => ?_⟩
  · by_cases hb : b = a
    · subst hb; rw [upd_same] at q; rw [← q]; exact ho
    · rw [upd_ne hb] at q; exact s.fh b x q
  · by_cases hj : j = i
    · subst hj
      rw [List.getElem?_set_self lt] at q
      cases q
      exact ⟨_, hs, r⟩
    · rw [List.getElem?_set_ne (Ne.symm hj)] at q
      obtain ⟨v, q1, q2⟩ := s.fz j e q
      exact ⟨v, q1, q2.mono sF⟩
  · by_cases hj : j = i
    · subst hj; rw [List.getElem?_set_self lt] at q; cases q
    · rw [List.getElem?_set_ne (Ne.symm hj)] at q
      obtain ⟨b, q1, q2, q3⟩ := s.ow j e q
      exact ⟨b, q1, own j e b hj (by rw [q]; rfl) q1 q2, q3⟩
  · by_cases hj : j = i
    · subst hj; rw [List.getElem?_set_self lt] at q; cases q
    · rw [List.getElem?_set_ne (Ne.symm hj)] at q
      obtain ⟨b, q1, q2, q3⟩ := s.io j e q
      exact ⟨b, q1, own j e b hj (by rw [q]; rfl) q1 q2, q3⟩
  · obtain ⟨e, q1, q2⟩ := s.iok p hp
    have hj : p.1 ≠ i := fun z => by rw [z, h] at q1; cases q1
    exact ⟨e, by rw [List.getElem?_set_ne (Ne.symm hj)]; exact q1, q2⟩
  · exact s.inj j k b (back j b q1).2 (back k b q2).2
  · have hb : b ≠ a := fun z => q (z ▸ h0)
    rw [upd_ne hb]; exact s.st2 b q f
  · have hb : b ≠ a := fun z => n ⟨i, z ▸ hi⟩
    rw [upd_ne hb]; exact f
  · have hj : j ≠ i := fun z => by subst z; rw [h] at q; cases q
    rw [List.getElem?_set_ne (Ne.symm hj)]; exact q
  · by_cases hj : j = i
    · subst hj; exact ⟨d, .inr (List.getElem?_set_self lt)⟩
    · exact ⟨e, .inl (by rw [owned_set hj]; exact q)⟩
/-- a new object that no slot holds is frozen -/
theorem Ev.freezeNew (v : Ev K N σ F H env F1 H1 env1) {a : Addr} {o : HO} (hn : H a = none) (hF : F1 a = none) (ho : H1 a = some o) (h0 : N.H0 a = none) (n : ¬ Owner σ env1 a) : Ev K N σ F H env (upd F1 a o) H1 env1 := by
  have s := v.sr
  have sF : Same F1 (upd F1 a o) := Same.upd hF
  have own : ∀ (j : Nat) (e : D) (b : Addr), owned env1[j]? = some e → σ[j]? = some (some (.ref b)) → OwnAt K F1 H1 b e → OwnAt K (upd F1 a o) H1 b e := fun j e b q1 q2 q3 =>
    q3.keep sF (by rw [upd_ne (fun z => n ⟨j, by rw [q1]; rfl, by rw [← z]; exact q2⟩)]; exact q3.1) fun _ z => z
  refine ⟨⟨fun b x q => ?_, s.len, fun j e q => ?_, fun j e q => ?_, fun j e q => ?_, s.iok, s.inj, s.st0.trans sF, s.st1, fun b q f => ?_, s.st3⟩, v.ff.trans sF, v.k1, fun b q f m => ?_, v.k3, v.k4, v.k5, v.k6⟩
  · by_cases hb : b = a
    · subst hb; rw [upd_same] at q; rw [← q]; exact ho
    · rw [upd_ne hb] at q; exact s.fh b x q
  · obtain ⟨v, q1, q2⟩ := s.fz j e q
    exact ⟨v, q1, q2.mono sF⟩
  · obtain ⟨b, q1, q2, q3⟩ := s.ow j e q
    exact ⟨b, q1, own j e b (by rw [q]; rfl) q1 q2, q3⟩
  · obtain ⟨b, q1, q2, q3⟩ := s.io j e q
    exact ⟨b, q1, own j e b (by rw [q]; rfl) q1 q2, q3⟩
  · have hb : b ≠ a := fun z => q (z ▸ h0)
    rw [upd_ne hb]; exact s.st2 b q f
  · have hb : b ≠ a := fun z => q (z ▸ hn)
    rw [upd_ne hb]; exact v.k2 b q f m
/-- the slot i's object has changed -/
def setOwn (env : Env) (i : Nat) (d : D) : Env := match env[i]? with
  | some (.ow _) => env.set i (.ow d)
  | some (.io _) => env.set i (.io d)
  | _ => env
theorem setOwn_length (env : Env) (i : Nat) (d : D) : (setOwn env i d).length = env.length := by
  unfold setOwn; split <;> simp
theorem setOwn_ne {i j : Nat} {d : D} (h : j ≠ i) : (setOwn env i d)[j]? = env[j]? := by
  unfold setOwn; split <;> first | rfl | rw [List.getElem?_set_ne (Ne.symm h)]
theorem setOwn_self {i : Nat} {d e : D} (h : owned env[i]? = some e) : owned (setOwn env i d)[i]? = some d ∧ ((env[i]? = some (.ow e) ∧ (setOwn env i d)[i]? = some (.ow d)) ∨ (env[i]? = some (.io e) ∧ (setOwn env i d)[i]? = some (.io d))) := by
  cases q : env[i]? with
  | none => rw [q] at h; cases h
  | some x =>
    have lt : i < env.length := (List.getElem?_eq_some_iff.mp q).1
    rw [q] at h
    unfold setOwn
    cases x with
    | no => cases h
    | fz _ => cases h
    | ow e' => cases h; simp only [q]; rw [List.getElem?_set_self lt]; exact ⟨rfl, .inl ⟨trivial, rfl⟩⟩
    | io e' => cases h; simp only [q]; rw [List.getElem?_set_self lt]; exact ⟨rfl, .inr ⟨trivial, rfl⟩⟩
theorem SR.write (s : SR K N F H σ env) {i : Nat} {d d' : D} {a : Addr} {o' : HO} (h : owned env[i]? = some d) (hs : σ[i]? = some (some (.ref a))) (r : OwnAt K F (upd H a o') a d') :
    Ev K N σ F H env F (upd H a o') (setOwn env i d') := by
  obtain ⟨a', e1, oa, hi⟩ := s.ownAt h
  rw [hs] at e1
  cases e1
  obtain ⟨so, sc⟩ := setOwn_self (d := d') h
  have ois : ∀ j, (owned (setOwn env i d')[j]?).isSome = (owned env[j]?).isSome := fun j => by
    by_cases hj : j = i
    · subst hj; rw [so, h]; rfl
    · rw [setOwn_ne hj]
  have back : ∀ j b, OwnSl σ (setOwn env i d') j b → OwnSl σ env j b := fun j b q => ⟨by rw [← ois]; exact q.1, q.2⟩
  have own : ∀ (j : Nat) (e : D) (b : Addr), j ≠ i → owned env[j]? = some e → σ[j]? = some (some (.ref b)) → OwnAt K F H b e → OwnAt K F (upd H a o') b e := fun j e b hj q1 q2 q3 => by
    have nb : b ≠ a := fun z => hj (s.inj j i a ⟨by rw [q1]; rfl, z ▸ q2⟩ hi)
    exact q3.keep (fun _ _ z => z) q3.1 fun u z => by rw [upd_ne nb]; exact z
  refine ⟨⟨fun b x q => ?_, by rw [setOwn_length]; exact s.len, fun j e q => ?_, fun j e q => ?_, fun j e q => ?_, fun p hp => ?_, fun j k b q1 q2 => s.inj j k b (back j b q1) (back k b q2), s.st0, fun b x q n => ?_, s.st2, fun b q => ?_⟩, fun _ _ z => z, fun b x q n => ?_, fun b q f n => f, fun b q => ?_, fun b ⟨j, q⟩ => ⟨j, back j b q⟩, fun j e q => ?_, fun j e q => ?_⟩
  · rw [upd_ne (ne_of_none q oa.1)]; exact s.fh b x q
  · by_cases hj : j = i
    · subst hj; rcases sc with ⟨_, z⟩ | ⟨_, z⟩ <;> (rw [z] at q; cases q)
    · rw [setOwn_ne hj] at q
      exact s.fz j e q
  · by_cases hj : j = i
    · subst hj
      rcases sc with ⟨w, z⟩ | ⟨w, z⟩
      · rw [z] at q; cases q
        obtain ⟨b, q1, q2, q3⟩ := s.ow j _ w
        rw [hs] at q1; cases q1
        exact ⟨a, hs, r, q3⟩
      · rw [z] at q; cases q
    · rw [setOwn_ne hj] at q
      obtain ⟨b, q1, q2, q3⟩ := s.ow j e q
      exact ⟨b, q1, own j e b hj (by rw [q]; rfl) q1 q2, q3⟩
  · by_cases hj : j = i
    · subst hj
      rcases sc with ⟨w, z⟩ | ⟨w, z⟩
      · rw [z] at q; cases q
      · rw [z] at q; cases q
        obtain ⟨b, q1, q2, q3⟩ := s.io j _ w
        rw [hs] at q1; cases q1
        exact ⟨a, hs, r, q3⟩
    · rw [setOwn_ne hj] at q
      obtain ⟨b, q1, q2, q3⟩ := s.io j e q
      exact ⟨b, q1, own j e b hj (by rw [q]; rfl) q1 q2, q3⟩
  · obtain ⟨e, q1, q2⟩ := s.iok p hp
    by_cases hj : p.1 = i
    · rw [hj] at q1 q2 ⊢
      rcases sc with ⟨w, z⟩ | ⟨w, z⟩
      · rw [w] at q1; cases q1
      · exact ⟨d', z, q2⟩
    · exact ⟨e, by rw [setOwn_ne hj]; exact q1, q2⟩
  · have hb : b ≠ a := fun z => by
      rcases sc with ⟨w, _⟩ | ⟨w, _⟩
      · obtain ⟨b', q1, _, q3⟩ := s.ow i _ w
        rw [hs] at q1; cases q1
        rw [z, q3] at q; cases q
      · obtain ⟨b', q1, _, q3⟩ := s.io i _ w
        rw [hs] at q1; cases q1
        exact n _ q3 z.symm
    rw [upd_ne hb]; exact s.st1 b x q n
  · by_cases hb : b = a
    · subst hb; rw [upd_same]; exact fun z => nomatch z
    · rw [upd_ne hb]; exact s.st3 b q
  · rw [upd_ne (fun z => n ⟨i, by rw [z]; exact hi⟩)]; exact q
  · by_cases hb : b = a
    · subst hb; rw [upd_same]; exact fun z => nomatch z
    · rw [upd_ne hb]; exact q
  · have hj : j ≠ i := fun z => by subst z; rw [q] at h; cases h
    rw [setOwn_ne hj]; exact q
  · by_cases hj : j = i
    · subst hj; exact ⟨d', .inl so⟩
    · exact ⟨e, .inl (by rw [setOwn_ne hj]; exact q)⟩

/-! ## a value that is read: plain data, or an object of one's own -/
def CRep (K : PySem.W.Frag) (F H : Hp) (v : V) (d : D) : Prop := Rep K F v d ∨ ∃ a, v = .ref a ∧ OwnAt K F H a d
def content (rv : Rv) (env : Env) : Option D := match rv with
  | .val d => some d
  | .new d => some d
  | .bor i => match env[i]? with
    | some (.fz d) => some d
    | some (.ow d) => some d
    | some (.io d) => some d
    | _ => none
theorem RepV.content (s : SR K N F H σ env) {rv : Rv} {v : V} {d : D} (r : RepV K N F H σ env rv v) (h : content rv env = some d) : CRep K F H v d := by
  cases rv with
  | val e => cases h; exact .inl r
  | new e => cases h; obtain ⟨a, rfl, o, _⟩ := r; exact .inr ⟨a, rfl, o⟩
  | bor i =>
    obtain ⟨q, _⟩ := r
    unfold PL.content at h
    simp only at h
    cases w : env[i]? with
    | none => rw [w] at h; cases h
    | some x =>
      rw [w] at h
      cases x with
      | no => cases h
      | fz e => cases h; obtain ⟨u, q1, q2⟩ := s.fz i d w; rw [q] at q1; cases q1; exact .inl q2
      | ow e => cases h; obtain ⟨a, q1, q2, _⟩ := s.ow i d w; rw [q] at q1; cases q1; exact .inr ⟨a, rfl, q2⟩
      | io e => cases h; obtain ⟨a, q1, q2, _⟩ := s.io i d w; rw [q] at q1; cases q1; exact .inr ⟨a, rfl, q2⟩
def settle (rv : Rv) (env : Env) : Option (D × Env) := match rv with
  | .val d => some (d, env)
  | .new d => some (d, env)
  | .bor i => match env[i]? with
    | some (.fz d) => some (d, env)
    | some (.ow d) => some (d, env.set i (.fz d))
    | _ => none
/-- behind an expression: its value, settled, is plain data -/
theorem RepV.settle (e : Ev K N σ F H env F1 H1 env1) {rv : Rv} {v : V} {d : D} (r : RepV K N F1 H1 σ env1 rv v) (f : Fresh H rv v) (h : settle rv env1 = some (d, env2)) : ∃ F2, Ev K N σ F H env F2 H1 env2 ∧ Rep K F2 v d := by
  cases rv with
  | val e' => cases h; exact ⟨F1, e, r⟩
  | new e' =>
    cases h
    obtain ⟨a, rfl, o, h0, n⟩ := r
    obtain ⟨a', q, hn⟩ := f
    cases q
    obtain ⟨u, hu, rr⟩ := o.freeze
    exact ⟨_, e.freezeNew hn o.1 hu h0 n, rr⟩
  | bor i =>
    obtain ⟨q, _⟩ := r
    unfold PL.settle at h
    simp only at h
    cases w : env1[i]? with
    | none => rw [w] at h; cases h
    | some x =>
      rw [w] at h
      cases x with
      | no => cases h
      | fz e' => cases h; obtain ⟨u, q1, q2⟩ := e.sr.fz i d w; rw [q] at q1; cases q1; exact ⟨F1, e, q2⟩
      | ow e' =>
        cases h
        obtain ⟨a, q1, q2, _⟩ := e.sr.ow i d w
        rw [q] at q1; cases q1
        obtain ⟨u, hu, rr⟩ := q2.freeze
        exact ⟨_, e.trans (e.sr.freeze w q hu rr), rr⟩
      | io e' => cases h
end

/-! ## runs -/
abbrev Wish := Ex → Env → L2.St → Hp → Hp → Prop
section
variable (K : PySem.W.Frag) (N : Ent) (W : Wish)
def Run {α : Type} (m : M α) (F H : Hp) (env : Env) (σ : L2.St) (P : α → Hp → Hp → Env → Prop) : Prop :=
  ∃ r, m env = some r ∧ match r with
  | .ok a env' => ∀ F' H', Ev K N σ F H env F' H' env' → P a F' H' env'
  | .exc x env' => ∀ F' H', Ev K N σ F H env F' H' env' → W x env' σ F' H'
/-- what an expression's run hands on -/
def PE_ (σ : L2.St) (H : Hp) (Q : VK) : Rv → Hp → Hp → Env → Prop := fun rv F' H' env' => ∀ v, RepV K N F' H' σ env' rv v → Fresh H rv v → Q v H'
def tmE (m : ME) : TE := fun σ H Q => ∃ F env, SR K N F H σ env ∧ Run K N W m F H env σ (PE_ K N σ H Q)
def tmT (m : M Bool) : TT := fun σ H Q => ∃ F env, SR K N F H σ env ∧ Run K N W m F H env σ (fun b _ H' _ => Q b H')
def tmA (m : M (List D)) : TA := fun σ H Q => ∃ F env, SR K N F H σ env ∧ Run K N W m F H env σ (fun ds F' H' _ => ∀ vs, RepL K F' vs ds → Q vs H')
end
def bnd {α β : Type} (m : M α) (f : α → M β) : M β := fun env => match m env with
  | none => none
  | some (.exc x e) => some (.exc x e)
  | some (.ok a e) => f a e
def ret {α : Type} (a : α) : M α := fun env => some (.ok a env)
def stuck {α : Type} : M α := fun _ => none
/-- of an option -/
def opt {α : Type} (o : Option α) : M α := fun env => o.map fun a => .ok a env
section
variable {K : PySem.W.Frag} {N : Ent} {W : Wish} {σ : L2.St} {F H F1 H1 F2 H2 : Hp} {env env1 env2 : Env} {α β : Type}
theorem Run.bnd {m : M α} {f : α → M β} {P : β → Hp → Hp → Env → Prop} (h : Run K N W (bnd m f) F H env σ P) : Run K N W m F H env σ (fun a F1 H1 env1 => Run K N W (f a) F1 H1 env1 σ P) := by
  obtain ⟨r, e, h⟩ := h
  unfold PL.bnd at e
  cases q : m env with
  | none => rw [q] at e; cases e
  | some x =>
    rw [q] at e
    cases x with
    | exc x e' => cases e; exact ⟨_, q, h⟩
    | ok a e' =>
      refine ⟨_, q, fun F1 H1 v1 => ⟨r, e, ?_⟩⟩
      cases r with
      | ok b e2 => exact fun F2 H2 v2 => h F2 H2 (v1.trans v2)
      | exc x e2 => exact fun F2 H2 v2 => h F2 H2 (v1.trans v2)
theorem Run.mono {m : M α} {P P' : α → Hp → Hp → Env → Prop} (h : Run K N W m F H env σ P) (k : ∀ a F1 H1 env1, Ev K N σ F H env F1 H1 env1 → P a F1 H1 env1 → P' a F1 H1 env1) : Run K N W m F H env σ P' := by
  obtain ⟨r, e, h⟩ := h
  refine ⟨r, e, ?_⟩
  cases r with
  | ok a e' => exact fun F1 H1 v => k _ _ _ _ v (h F1 H1 v)
  | exc x e' => exact h
theorem Run.ret {a : α} {P : α → Hp → Hp → Env → Prop} (s : SR K N F H σ env) (h : Run K N W (ret a) F H env σ P) : P a F H env := by
  obtain ⟨r, e, h⟩ := h
  cases e
  exact h F H (.refl s)
theorem Run.opt {o : Option α} {P : α → Hp → Hp → Env → Prop} (h : Run K N W (opt o) F H env σ P) : ∃ a, o = some a ∧ Run K N W (PL.ret a) F H env σ P := by
  obtain ⟨r, e, h⟩ := h
  unfold PL.opt at e
  cases o with
  | none => cases e
  | some a => cases e; exact ⟨a, rfl, _, rfl, h⟩
end

theorem PE.weak {X : Cx} {e : Expr} {t t' : TE} (h : PE X e t) (w : ∀ σ H Q, t' σ H Q → t σ H Q) : PE X e t' := ⟨fun pins s σ H Q I q => h.run pins s σ H Q I (w σ H Q q)⟩
theorem PT.weak {X : Cx} {e : Expr} {t t' : TT} (h : PT X e t) (w : ∀ σ H Q, t' σ H Q → t σ H Q) : PT X e t' := ⟨fun pins s σ H Q I q => h.run pins s σ H Q I (w σ H Q q)⟩
theorem PW.weak {X : Cx} {e : Expr} {t t' : TT} (h : PW X e t) (w : ∀ σ H Q, t' σ H Q → t σ H Q) : PW X e t' := ⟨fun whole pins s σ H Q I q => h.run whole pins s σ H Q I (w σ H Q q)⟩
theorem PA.weak {X : Cx} {e : List Expr} {t t' : TA} (h : PA X e t) (w : ∀ σ H Q, t' σ H Q → t σ H Q) : PA X e t' := ⟨fun pos pins s σ H Q I q => h.run pos pins s σ H Q I (w σ H Q q)⟩
theorem PS.weak {X : Cx} {e : Stmt} {t t' : TS} (h : PS X e t) (w : ∀ D σ H, t' D σ H → t D σ H) : PS X e t' := ⟨fun pins s σ H D I q => h.run pins s σ H D I (w D σ H q)⟩
theorem PSs.weak {X : Cx} {e : List Stmt} {t t' : TS} (h : PSs X e t) (w : ∀ D σ H, t' D σ H → t D σ H) : PSs X e t' := ⟨fun pins s σ H D I q => h.run pins s σ H D I (w D σ H q)⟩

abbrev SE (X : Cx) (N : Ent) (W : Wish) (e : Expr) (m : ME) : Prop := PE X e (tmE X.K N W m)
abbrev STt (X : Cx) (N : Ent) (W : Wish) (e : Expr) (m : M Bool) : Prop := PT X e (tmT X.K N W m)
abbrev SWt (X : Cx) (N : Ent) (W : Wish) (e : Expr) (m : M Bool) : Prop := PW X e (tmT X.K N W m)
abbrev SA (X : Cx) (N : Ent) (W : Wish) (e : List Expr) (m : M (List D)) : Prop := PA X e (tmA X.K N W m)

/-! ## operators -/
/-- a result: of its own, or plain -/
abbrev Rz := Bool × D
def Rz.rv (z : Rz) : Rv := if z.1 then .new z.2 else .val z.2
def val (d : D) : Option Rz := some (false, d)
def new (d : D) : Option Rz := some (true, d)
/-- a rule's result reaches what is wanted -/
def Gives (K : PySem.W.Frag) (F H : Hp) (z : Rz) (Q : VK) : Prop :=
  if z.1 then ∀ a F' H', Grow F H F' H' → OwnAt K F' H' a z.2 → H a = none → Q (.ref a) H' else ∀ v F' H', Grow F H F' H' → Rep K F' v z.2 → Q v H'
theorem Gives.of {K : PySem.W.Frag} {N : Ent} {W : Wish} {σ : L2.St} {F H : Hp} {env : Env} {z : Rz} {Q : VK} (s : SR K N F H σ env) (h : Run K N W (ret z.rv) F H env σ (PE_ K N σ H Q)) : Gives K F H z Q := by
  obtain ⟨r, e, h⟩ := h
  cases e
  obtain ⟨b, d⟩ := z
  cases b with
  | false => exact fun v F' H' g rr => h F' H' (g.ev s) v rr trivial
  | true => exact fun a F' H' g o hn => h F' H' (g.ev s) (.ref a) ⟨a, rfl, o, s.fresh0 hn, s.notOwner hn⟩ ⟨a, rfl, hn⟩
theorem Gives.val {K : PySem.W.Frag} {F H : Hp} {d : D} {Q : VK} {v : V} (h : Gives K F H (false, d) Q) (s : Same F H) (r : Rep K F v d) : Q v H := h v F H (.refl s) r
def prim1 (f : D → Option Rz) (ra : Rv) : ME := fun env => match PL.content ra env with
  | some a => match f a with
    | some z => some (.ok z.rv env)
    | none => none
  | none => none
def prim2 (f : D → D → Option Rz) (ra rb : Rv) : ME := fun env => match PL.content ra env, PL.content rb env with
  | some a, some b => match f a b with
    | some z => some (.ok z.rv env)
    | none => none
  | _, _ => none
section
variable {K : PySem.W.Frag} {N : Ent} {W : Wish} {σ : L2.St} {F H : Hp} {env : Env}
theorem Run.prim1 {f : D → Option Rz} {ra : Rv} {P : Rv → Hp → Hp → Env → Prop} (h : Run K N W (prim1 f ra) F H env σ P) : ∃ a z, content ra env = some a ∧ f a = some z ∧ Run K N W (PL.ret z.rv) F H env σ P := by
  obtain ⟨r, e, h⟩ := h
  unfold PL.prim1 at e
  cases qa : content ra env with
  | none => rw [qa] at e; cases e
  | some a =>
    rw [qa] at e
    cases qf : f a with
    | none => simp only [qf] at e; cases e
    | some z => simp only [qf] at e; cases e; exact ⟨a, z, rfl, qf, _, rfl, h⟩
theorem Run.prim2 {f : D → D → Option Rz} {ra rb : Rv} {P : Rv → Hp → Hp → Env → Prop} (h : Run K N W (prim2 f ra rb) F H env σ P) : ∃ a b z, content ra env = some a ∧ content rb env = some b ∧ f a b = some z ∧ Run K N W (PL.ret z.rv) F H env σ P := by
  obtain ⟨r, e, h⟩ := h
  unfold PL.prim2 at e
  cases qa : content ra env with
  | none => rw [qa] at e; cases e
  | some a =>
    cases qb : content rb env with
    | none => rw [qa, qb] at e; cases e
    | some b =>
      rw [qa, qb] at e
      cases qf : f a b with
      | none => simp only [qf] at e; cases e
      | some z => simp only [qf] at e; cases e; exact ⟨a, b, z, rfl, rfl, qf, _, rfl, h⟩
end
def mBin (f : D → D → Option Rz) (ma mb : ME) : ME := bnd ma fun ra => bnd mb fun rb => prim2 f ra rb
def mUn (f : D → Option Rz) (ma : ME) : ME := bnd ma fun ra => prim1 f ra
theorem PE_.back {K : PySem.W.Frag} {N : Ent} {σ : L2.St} {H H1 : Hp} {Q : VK} {rv : Rv} {F' H' : Hp} {env' : Env} (k3 : ∀ a, H a ≠ none → H1 a ≠ none) (h : PE_ K N σ H Q rv F' H' env') : PE_ K N σ H1 Q rv F' H' env' := fun v r f => h v r (by
  cases rv with
  | val _ => trivial
  | bor _ => trivial
  | new d =>
    obtain ⟨a, e, hn⟩ := f
    refine ⟨a, e, ?_⟩
    cases q : H a with
    | none => rfl
    | some o => exact absurd hn (k3 a (by rw [q]; exact fun z => nomatch z)))
/-- two operands -/
theorem tmE_bin {K : PySem.W.Frag} {N : Ent} {W : Wish} {f : D → D → Option Rz} {ma mb : ME} {r : R2} (hr : ∀ F H x y a b z Q, Same F H → CRep K F H x a → CRep K F H y b → f a b = some z → Gives K F H z Q → r x y H Q) {σ : L2.St} {H : Hp} {Q : VK} (h : tmE K N W (mBin f ma mb) σ H Q) :
    tmE K N W ma σ H fun x H1 => tmE K N W mb σ H1 fun y H2 => r x y H2 Q := by
  obtain ⟨F, env, s, h⟩ := h
  refine ⟨F, env, s, h.bnd.mono fun ra F1 H1 env1 v1 h1 x rx fx => ⟨F1, env1, v1.sr, h1.bnd.mono fun rb F2 H2 env2 v2 h2 y ry fy => ?_⟩⟩
  obtain ⟨a, b, z, qa, qb, qf, h3⟩ := h2.prim2
  exact hr F2 H2 x y a b z Q v2.sr.fh ((rx.ev v2).content v2.sr qa) (ry.content v2.sr qb) qf (Gives.of (W := W) v2.sr (h3.mono fun rv F3 H3 env3 v3 p => p.back fun a q => v2.k3 a (v1.k3 a q)))
theorem tmE_un {K : PySem.W.Frag} {N : Ent} {W : Wish} {f : D → Option Rz} {ma : ME} {r : V → Hp → VK → Prop} (hr : ∀ F H x a z Q, Same F H → CRep K F H x a → f a = some z → Gives K F H z Q → r x H Q) {σ : L2.St} {H : Hp} {Q : VK} (h : tmE K N W (mUn f ma) σ H Q) :
    tmE K N W ma σ H fun x H1 => r x H1 Q := by
  obtain ⟨F, env, s, h⟩ := h
  refine ⟨F, env, s, h.bnd.mono fun ra F1 H1 env1 v1 h1 x rx fx => ?_⟩
  obtain ⟨a, z, qa, qf, h3⟩ := h1.prim1
  exact hr F1 H1 x a z Q v1.sr.fh (rx.content v1.sr qa) qf (Gives.of (W := W) v1.sr (h3.mono fun rv F3 H3 env3 v3 p => p.back v1.k3))
end PL

namespace PL
open PySem L2
/-! ## equality of plain data -/
mutual
def gd : D → Bool
  | .non => true
  | .bl _ => true
  | .int _ => true
  | .str x => PyData.strOk x
  | .tup xs => gdL xs
  | .lst xs => gdL xs
  | .rol xs => gdL xs
  | .dK _ => false
  | .dT _ => false
  | .set _ _ => false
  | .oth _ => false
def gdL : List D → Bool
  | [] => true
  | x :: xs => gd x && gdL xs
end
mutual
def py : D → PyData
  | .non => .none
  | .bl b => .bool b
  | .int i => .int i
  | .str x => .str x
  | .tup xs => .tuple (pyL xs)
  | .lst xs => .list (pyL xs)
  | .rol xs => .list (pyL xs)
  | .dK _ => .none
  | .dT _ => .none
  | .set _ _ => .none
  | .oth _ => .none
def pyL : List D → List PyData
  | [] => []
  | x :: xs => py x :: pyL xs
end
mutual
def dp : D → Nat
  | .non => 0
  | .bl _ => 0
  | .int _ => 0
  | .str _ => 0
  | .tup xs => dpL xs + 1
  | .lst xs => dpL xs + 1
  | .rol xs => dpL xs + 1
  | .dK _ => 0
  | .dT _ => 0
  | .set _ _ => 0
  | .oth _ => 0
def dpL : List D → Nat
  | [] => 0
  | x :: xs => max (dp x) (dpL xs)
end
mutual
theorem gd_lay : ∀ d : D, gd d = true → (py d).canLay0 = true
  | .non, _ => by simp [py, PyData.canLay0]
  | .bl b, _ => by simp [py, PyData.canLay0]
  | .int i, _ => by simp [py, PyData.canLay0]
  | .str x, h => by simpa [py, PyData.canLay0, gd] using h
  | .tup xs, h => by simp only [py, PyData.canLay0]; exact gd_layL xs (by simpa [gd] using h)
  | .lst xs, h => by simp only [py, PyData.canLay0]; exact gd_layL xs (by simpa [gd] using h)
  | .rol xs, h => by simp only [py, PyData.canLay0]; exact gd_layL xs (by simpa [gd] using h)
  | .dK _, h => by simp [gd] at h
  | .dT _, h => by simp [gd] at h
  | .set _ _, h => by simp [gd] at h
  | .oth _, h => by simp [gd] at h
theorem gd_layL : ∀ xs : List D, gdL xs = true → PyData.canLayAll0 (pyL xs) = true
  | [], _ => by simp [pyL, PyData.canLayAll0]
  | x :: xs, h => by
    have h' : gd x = true ∧ gdL xs = true := by simpa [gdL] using h
    simp only [pyL, PyData.canLayAll0, Bool.and_eq_true]
    exact ⟨gd_lay x h'.1, gd_layL xs h'.2⟩
end
mutual
theorem dp_depth : ∀ d : D, (py d).depth = dp d
  | .non => by simp [py, PyData.depth, dp]
  | .bl b => by simp [py, PyData.depth, dp]
  | .int i => by simp [py, PyData.depth, dp]
  | .str x => by simp [py, PyData.depth, dp]
  | .tup xs => by simp only [py, PyData.depth, dp]; rw [dp_depthL xs]
  | .lst xs => by simp only [py, PyData.depth, dp]; rw [dp_depthL xs]
  | .rol xs => by simp only [py, PyData.depth, dp]; rw [dp_depthL xs]
  | .dK _ => by simp [py, PyData.depth, dp]
  | .dT _ => by simp [py, PyData.depth, dp]
  | .set _ _ => by simp [py, PyData.depth, dp]
  | .oth _ => by simp [py, PyData.depth, dp]
theorem dp_depthL : ∀ xs : List D, PyData.depthAll (pyL xs) = dpL xs
  | [] => by simp [pyL, PyData.depthAll, dpL]
  | x :: xs => by simp only [pyL, PyData.depthAll, dpL]; rw [dp_depth x, dp_depthL xs]
end
/-- data that may be compared -/
def cmpOk (d : D) : Bool := gd d && decide (dp d ≤ 64)
theorem cmpOk.shaped {d : D} (h : cmpOk d = true) : SeqAt.shaped (py d) = true := by
  unfold cmpOk at h
  have h' := Bool.and_eq_true_iff.mp h
  unfold SeqAt.shaped
  rw [gd_lay d h'.1, dp_depth]
  exact h'.2
def eqv (a b : D) : Bool := PyData.eqv (py a) (py b)
section
variable {K : PySem.W.Frag} {F H : Hp}
mutual
theorem Rep.dp (e : Same F H) : ∀ {v : V} {d : D}, gd d = true → Rep K F v d → Dp K H v (py d)
  | _, .non, _, .non => .non
  | _, .bl _, _, .bl b => .bl b
  | _, .int _, _, .int i => .int i
  | _, .str _, _, .str x => .str x
  | _, .tup ds, g, .tup h t => by simp only [py]; exact .tup (Same.seqT e h) (RepL.dp e (by simpa [gd] using g) t)
  | _, .lst ds, g, .lst h t => by simp only [py]; exact .lst (SqL.of (e _ _ h)) (RepL.dp e (by simpa [gd] using g) t)
  | _, .rol ds, g, .rol h t => by simp only [py]; exact .lst (e.seq h) (RepL.dp e (by simpa [gd] using g) t)
  | _, .dK _, g, _ => by simp [gd] at g
  | _, .dT _, g, _ => by simp [gd] at g
  | _, .set _ _, g, _ => by simp [gd] at g
  | _, .oth _, g, _ => by simp [gd] at g
theorem RepL.dp (e : Same F H) : ∀ {vs : List V} {ds : List D}, gdL ds = true → RepL K F vs ds → DpAll K H vs (pyL ds)
  | _, [], _, .nil => .nil
  | _, d :: ds, g, .cons h t => by
    have g' : gd d = true ∧ gdL ds = true := by simpa [gdL] using g
    simp only [pyL]
    exact .cons (Rep.dp e g'.1 h) (RepL.dp e g'.2 t)
end
theorem CRep.dp (e : Same F H) {v : V} {d : D} (g : gd d = true) (h : CRep K F H v d) : Dp K H v (py d) := by
  rcases h with h | ⟨a, rfl, o⟩
  · exact h.dp e g
  · obtain ⟨_, o⟩ := o
    cases d with
    | lst ds => obtain ⟨xs, q, r⟩ := o; simp only [py]; exact .lst (SqL.of q) (RepL.dp e (by simpa [gd] using g) r)
    | dK _ => simp [gd] at g
    | dT _ => simp [gd] at g
    | set _ _ => simp [gd] at g
    | _ => exact o.elim
/-! ## what is read -/
theorem CRep.int {x : V} {i : Int} (h : CRep K F H x (.int i)) : x = .int i := by
  rcases h with h | ⟨a, rfl, _, o⟩
  · cases h; rfl
  · exact o.elim
theorem CRep.bl {x : V} {i : Bool} (h : CRep K F H x (.bl i)) : x = .bl i := by
  rcases h with h | ⟨a, rfl, _, o⟩
  · cases h; rfl
  · exact o.elim
theorem CRep.str {x : V} {i : Str} (h : CRep K F H x (.str i)) : x = .str i := by
  rcases h with h | ⟨a, rfl, _, o⟩
  · cases h; rfl
  · exact o.elim
theorem CRep.non {x : V} (h : CRep K F H x .non) : x = .non := by
  rcases h with h | ⟨a, rfl, _, o⟩
  · cases h; rfl
  · exact o.elim
theorem CRep.oth {x v : V} (h : CRep K F H x (.oth v)) : x = v := by
  rcases h with h | ⟨a, rfl, _, o⟩
  · cases h; rfl
  · exact o.elim
theorem CRep.tup (e : Same F H) {x : V} {ds : List D} (h : CRep K F H x (.tup ds)) : ∃ a xs, x = .ref a ∧ SqT K H a xs ∧ RepL K F xs ds ∧ Rep K F x (.tup ds) := by
  rcases h with h | ⟨a, rfl, _, o⟩
  · cases id h with
    | tup q r => exact ⟨_, _, rfl, Same.seqT e q, r, h⟩
  · exact o.elim
theorem CRep.lst (e : Same F H) {x : V} {ds : List D} (h : CRep K F H x (.lst ds)) : ∃ a xs, x = .ref a ∧ H a = some (.lst xs) ∧ RepL K F xs ds := by
  rcases h with h | ⟨a, rfl, _, o⟩
  · cases h with
    | lst q r => exact ⟨_, _, rfl, e _ _ q, r⟩
  · obtain ⟨xs, q, r⟩ := o
    exact ⟨a, xs, rfl, q, r⟩
theorem CRep.rol (e : Same F H) {x : V} {ds : List D} (h : CRep K F H x (.rol ds)) : ∃ a xs, x = .ref a ∧ SqL K H a xs ∧ RepL K F xs ds := by
  rcases h with h | ⟨a, rfl, _, o⟩
  · cases h with
    | rol q r => exact ⟨_, _, rfl, e.seq q, r⟩
  · exact o.elim
/-- lists and tuples -/
def items : D → Option (List D)
  | .tup ds => some ds
  | .lst ds => some ds
  | .rol ds => some ds
  | _ => none
theorem CRep.items (e : Same F H) {x : V} {d : D} {ds : List D} (h : CRep K F H x d) (q : items d = some ds) : ∃ a xs, x = .ref a ∧ (SqL K H a xs ∨ SqT K H a xs) ∧ RepL K F xs ds := by
  cases d with
  | tup es => cases q; obtain ⟨a, xs, e1, e2, e3, _⟩ := h.tup e; exact ⟨a, xs, e1, .inr e2, e3⟩
  | lst es => cases q; obtain ⟨a, xs, e1, e2, e3⟩ := h.lst e; exact ⟨a, xs, e1, .inl (SqL.of e2), e3⟩
  | rol es => cases q; obtain ⟨a, xs, e1, e2, e3⟩ := h.rol e; exact ⟨a, xs, e1, .inl e2, e3⟩
  | _ => cases q
/-- a dict with flat keys is read -/
theorem CRep.dK (e : Same F H) {x : V} {es : List (Key × D)} (h : CRep K F H x (.dK es)) : ∃ a kvs, x = .ref a ∧ H a = some (.dK kvs) ∧ kvs.map (·.1) = es.map (·.1) ∧ RepL K F (kvs.map (·.2)) (es.map (·.2)) := by
  rcases h with h | ⟨a, rfl, _, o⟩
  · cases h with
    | dK q k r => exact ⟨_, _, rfl, e _ _ q, k, r⟩
  · obtain ⟨xs, q, k, r⟩ := o
    exact ⟨a, xs, rfl, q, k, r⟩
theorem Gives.newL (s : Same F H) {xs : List V} {ds : List D} {Q : VK} (g : Gives K F H (true, .lst ds) Q) (r : RepL K F xs ds) : ∀ p, H p = none → Q (.ref p) (upd H p (.lst xs)) := fun p hp =>
  g p F _ (.made s hp) ⟨s.free hp, xs, upd_same, r⟩ hp
theorem Gives.newT (s : Same F H) {xs : List V} {ds : List D} {Q : VK} (g : Gives K F H (false, .tup ds) Q) (r : RepL K F xs ds) : ∀ p, H p = none → Q (.ref p) (upd H p (.tup xs)) := fun p hp =>
  g (.ref p) _ _ (.frozen s hp) (.tup (SqT.of upd_same) (r.mono (Same.upd (s.free hp))))
end

/-! ## operators -/
def OpS (X : Cx) (op : Value → Value → Sem Value) (f : D → D → Option Rz) : Prop := ∃ r : R2, OpR X op r ∧ ∀ F H x y a b z Q, Same F H → CRep X.K F H x a → CRep X.K F H y b → f a b = some z → Gives X.K F H z Q → r x y H Q
section
variable {X : Cx}
theorem OpS.or {op : Value → Value → Sem Value} {f g : D → D → Option Rz} (hf : OpS X op f) (hg : OpS X op g) : OpS X op (fun a b => (f a b).orElse fun _ => g a b) := by
  obtain ⟨r, h1, h2⟩ := hf
  obtain ⟨r', h1', h2'⟩ := hg
  refine ⟨_, h1.or h1', fun F H x y a b z Q e ra rb q gz => ?_⟩
  cases w : f a b with
  | some z' =>
    simp only [w, Option.orElse] at q
    cases q
    exact .inl (h2 F H x y a b z Q e ra rb w gz)
  | none =>
    simp only [w, Option.orElse] at q
    exact .inr (h2' F H x y a b z Q e ra rb q gz)
/-- two ints to an int or a truth value -/
def fI (C : Int → Int → Prop) [∀ i j, Decidable (C i j)] (g : Int → Int → D) : D → D → Option Rz
  | .int i, .int j => if C i j then val (g i j) else none
  | _, _ => none
theorem opS_I {op : Value → Value → Sem Value} {C : Int → Int → Prop} [∀ i j, Decidable (C i j)] {g : Int → Int → V} {g' : Int → Int → D} (h : OpR X op (rI C g)) (hg : ∀ K F i j, Rep K F (g i j) (g' i j)) : OpS X op (fI C g') := by
  refine ⟨_, h, fun F H x y a b z Q e ra rb q gz => ?_⟩
  cases a with
  | int i =>
    cases b with
    | int j =>
      unfold fI at q
      by_cases hc : C i j
      · simp only [if_pos hc] at q
        cases q
        exact ⟨i, j, ra.int, rb.int, hc, Gives.val gz e (hg _ _ i j)⟩
      · simp only [if_neg hc] at q
        cases q
    | _ => cases q
  | _ => cases q
def fI0 (g : Int → Int → D) : D → D → Option Rz
  | .int i, .int j => val (g i j)
  | _, _ => none
theorem opS_I0 {op : Value → Value → Sem Value} {g : Int → Int → V} {g' : Int → Int → D} (h : OpR X op (rI0 g)) (hg : ∀ K F i j, Rep K F (g i j) (g' i j)) : OpS X op (fI0 g') := by
  refine ⟨_, h, fun F H x y a b z Q e ra rb q gz => ?_⟩
  cases a with
  | int i =>
    cases b with
    | int j => cases q; exact ⟨i, j, ra.int, rb.int, Gives.val gz e (hg _ _ i j)⟩
    | _ => cases q
  | _ => cases q
instance (i j : Int) : Decidable (CMul i j) := by unfold CMul; infer_instance
instance (i j : Int) : Decidable (CMulW i j) := by unfold CMulW; infer_instance
instance (i j : Int) : Decidable (CDivW i j) := by unfold CDivW; infer_instance
instance (i j : Int) : Decidable (CDiv i j) := by unfold CDiv; infer_instance
/-- + -/
def fCatT : D → D → Option Rz
  | .tup a, .tup b => if a.length + b.length ≤ sizeLine then val (.tup (a ++ b)) else none
  | _, _ => none
def fCatL : D → D → Option Rz
  | .lst a, .lst b => if a.length + b.length ≤ sizeLine then new (.lst (a ++ b)) else none
  | _, _ => none
def fCatS : D → D → Option Rz
  | .str a, .str b => if a.length + b.length ≤ sizeLine then val (.str (a ++ b)) else none
  | _, _ => none
theorem opS_catT : OpS X (binaryOp .Add) fCatT := by
  refine ⟨_, op_catA, fun F H x y a b z Q e ra rb q gz => ?_⟩
  cases a with
  | tup a =>
    cases b with
    | tup b =>
      unfold fCatT at q
      by_cases hc : a.length + b.length ≤ sizeLine
      · simp only [if_pos hc] at q
        cases q
        obtain ⟨p, xs, rfl, h1, h2, h3⟩ := ra.tup e
        obtain ⟨p', ys, rfl, h1', h2', h3'⟩ := rb.tup e
        refine ⟨p, p', xs, ys, rfl, rfl, h1, h1', by rw [h2.length, h2'.length]; exact hc, fun q => ?_, fun _ q => ?_, fun _ _ => gz.newT e (h2.append h2')⟩
        · subst q
          cases h2
          exact Gives.val gz e h3'
        · subst q
          cases h2'
          rw [List.append_nil] at gz
          exact Gives.val gz e h3
      · simp only [if_neg hc] at q
        cases q
    | _ => cases q
  | _ => cases q
theorem opS_catL : OpS X (binaryOp .Add) fCatL := by
  refine ⟨_, op_cat, fun F H x y a b z Q e ra rb q gz => ?_⟩
  cases a with
  | lst a =>
    cases b with
    | lst b =>
      unfold fCatL at q
      by_cases hc : a.length + b.length ≤ sizeLine
      · simp only [if_pos hc] at q
        cases q
        obtain ⟨p, xs, rfl, h1, h2⟩ := ra.lst e
        obtain ⟨p', ys, rfl, h1', h2'⟩ := rb.lst e
        exact ⟨p, p', xs, ys, rfl, rfl, h1, h1', by rw [h2.length, h2'.length]; exact hc, gz.newL e (h2.append h2')⟩
      · simp only [if_neg hc] at q
        cases q
    | _ => cases q
  | _ => cases q
theorem opS_catS : OpS X (binaryOp .Add) fCatS := by
  refine ⟨_, op_add_str, fun F H x y a b z Q e ra rb q gz => ?_⟩
  cases a with
  | str a =>
    cases b with
    | str b =>
      unfold fCatS at q
      by_cases hc : a.length + b.length ≤ sizeLine
      · simp only [if_pos hc] at q
        cases q
        exact ⟨a, b, ra.str, rb.str, hc, Gives.val gz e (.str _)⟩
      · simp only [if_neg hc] at q
        cases q
    | _ => cases q
  | _ => cases q
def addF : D → D → Option Rz
  | .int i, .int j => val (.int (i + j))
  | .tup a, .tup b => if a.length + b.length ≤ sizeLine then val (.tup (a ++ b)) else none
  | .lst a, .lst b => if a.length + b.length ≤ sizeLine then new (.lst (a ++ b)) else none
  | .str a, .str b => if a.length + b.length ≤ sizeLine then val (.str (a ++ b)) else none
  | _, _ => none
theorem OpS.alt {op : Value → Value → Sem Value} {f g k : D → D → Option Rz} (hf : OpS X op f) (hg : OpS X op g) (h : ∀ a b z, k a b = some z → f a b = some z ∨ g a b = some z) : OpS X op k := by
  obtain ⟨r, h1, h2⟩ := hf
  obtain ⟨r', h1', h2'⟩ := hg
  refine ⟨_, h1.or h1', fun F H x y a b z Q e ra rb q gz => ?_⟩
  rcases h a b z q with w | w
  · exact .inl (h2 F H x y a b z Q e ra rb w gz)
  · exact .inr (h2' F H x y a b z Q e ra rb w gz)
theorem ops_add : OpS X (binaryOp .Add) addF :=
  ((opS_I0 (g' := fun i j => .int (i + j)) op_add fun _ _ _ _ => .int _).alt (opS_catT.alt (opS_catL.alt opS_catS (k := fun a b => match a, b with | .lst _, .lst _ => addF a b | .str _, .str _ => addF a b | _, _ => none)
    fun a b z h => by cases a <;> cases b <;> first | exact .inl h | exact .inr h | cases h) (k := fun a b => match a, b with | .int _, .int _ => none | _, _ => addF a b) fun a b z h => by cases a <;> cases b <;> first | exact .inl h | exact .inr h | cases h) (k := addF)
    fun a b z h => by cases a <;> cases b <;> first | exact .inl h | exact .inr h | cases h)
def subF : D → D → Option Rz := fI0 fun i j => .int (i - j)
theorem ops_sub : OpS X (binaryOp .Sub) subF := opS_I0 op_sub fun _ _ _ _ => .int _
def CMulA (i j : Int) : Prop := CMul i j ∨ CMulW i j
instance (i j : Int) : Decidable (CMulA i j) := by unfold CMulA; infer_instance
def fRepT : D → D → Option Rz
  | .tup a, .int k => if a ≠ [] ∧ 2 ≤ k ∧ k ≤ 1000 ∧ a.length ≤ 1000 then val (.tup (List.replicate k.toNat a).flatten) else none
  | _, _ => none
def fRepL : D → D → Option Rz
  | .lst a, .int k => if -(2 ^ 63) ≤ k ∧ k < 2 ^ 63 ∧ a.length * k.toNat ≤ sizeLine then new (.lst (List.replicate k.toNat a).flatten) else none
  | _, _ => none
theorem opS_repT : OpS X (binaryOp .Mult) fRepT := by
  refine ⟨_, op_repT, fun F H x y a b z Q e ra rb q gz => ?_⟩
  cases a with
  | tup a =>
    cases b with
    | int k =>
      unfold fRepT at q
      by_cases hc : a ≠ [] ∧ 2 ≤ k ∧ k ≤ 1000 ∧ a.length ≤ 1000
      · simp only [if_pos hc] at q
        cases q
        obtain ⟨p, xs, rfl, h1, h2, h3⟩ := ra.tup e
        obtain rfl := rb.int
        refine ⟨p, k, xs, rfl, rfl, h1, fun w => ?_, hc.2.1, hc.2.2.1, by rw [h2.length]; exact hc.2.2.2, gz.newT e (h2.rep _)⟩
        subst w
        cases h2
        exact hc.1 rfl
      · simp only [if_neg hc] at q
        cases q
    | _ => cases q
  | _ => cases q
theorem opS_repL : OpS X (binaryOp .Mult) fRepL := by
  refine ⟨_, op_rep, fun F H x y a b z Q e ra rb q gz => ?_⟩
  cases a with
  | lst a =>
    cases b with
    | int k =>
      unfold fRepL at q
      by_cases hc : -(2 ^ 63) ≤ k ∧ k < 2 ^ 63 ∧ a.length * k.toNat ≤ sizeLine
      · simp only [if_pos hc] at q
        cases q
        obtain ⟨p, xs, rfl, h1, h2⟩ := ra.lst e
        obtain rfl := rb.int
        exact ⟨p, k, xs, rfl, rfl, h1, hc.1, hc.2.1, by rw [h2.length]; exact hc.2.2, gz.newL e (h2.rep _)⟩
      · simp only [if_neg hc] at q
        cases q
    | _ => cases q
  | _ => cases q
def mulF : D → D → Option Rz
  | .int i, .int j => if CMulA i j then val (.int (i * j)) else none
  | .tup a, .int k => if a ≠ [] ∧ 2 ≤ k ∧ k ≤ 1000 ∧ a.length ≤ 1000 then val (.tup (List.replicate k.toNat a).flatten) else none
  | .lst a, .int k => if -(2 ^ 63) ≤ k ∧ k < 2 ^ 63 ∧ a.length * k.toNat ≤ sizeLine then new (.lst (List.replicate k.toNat a).flatten) else none
  | _, _ => none
theorem ops_mulI : OpS X (binaryOp .Mult) (fI CMulA fun i j => .int (i * j)) :=
  (opS_I (g' := fun i j => .int (i * j)) op_mul fun _ _ _ _ => .int _).alt (opS_I (g' := fun i j => .int (i * j)) op_mulW fun _ _ _ _ => .int _) fun a b z h => by
    cases a <;> cases b <;> first | cases h | skip
    unfold fI at h ⊢
    simp only at h ⊢
    split at h
    · rename_i hc
      rcases hc with hc | hc
      · exact .inl (by rw [if_pos hc]; exact h)
      · exact .inr (by rw [if_pos hc]; exact h)
    · cases h
theorem ops_mul : OpS X (binaryOp .Mult) mulF :=
  ops_mulI.alt (opS_repT.alt opS_repL (k := fun a b => match a, b with | .int _, .int _ => none | _, _ => mulF a b) fun a b z h => by cases a <;> cases b <;> first | exact .inl h | exact .inr h | cases h)
    fun a b z h => by cases a <;> cases b <;> first | exact .inl h | exact .inr h | cases h
def CDivA (i j : Int) : Prop := CDiv i j ∨ CDivW i j
instance (i j : Int) : Decidable (CDivA i j) := by unfold CDivA; infer_instance
def divF : D → D → Option Rz := fI CDivA fun i j => .int (i / j)
theorem ops_div : OpS X (binaryOp .FloorDiv) divF :=
  (opS_I (g' := fun i j => .int (i / j)) op_fdiv fun _ _ _ _ => .int _).alt (opS_I (g' := fun i j => .int (i / j)) op_fdivW fun _ _ _ _ => .int _) fun a b z h => by
    cases a <;> cases b <;> first | cases h | skip
    unfold divF fI at *
    simp only at h ⊢
    split at h
    · rename_i hc
      rcases hc with hc | hc
      · exact .inl (by rw [if_pos hc]; exact h)
      · exact .inr (by rw [if_pos hc]; exact h)
    · cases h
def modF : D → D → Option Rz := fI (fun _ j => 0 < j) fun i j => .int (i % j)
theorem ops_mod : OpS X (binaryOp .Mod) modF := opS_I (g' := fun i j => .int (i % j)) op_mod fun _ _ _ _ => .int _
def CPowA (i j : Int) : Prop := 0 ≤ j ∧ (Builtin.Int.intBits i : Int) * j ≤ 2 ^ 27
instance (i j : Int) : Decidable (CPowA i j) := by unfold CPowA; infer_instance
def powF : D → D → Option Rz := fI CPowA fun i j => .int (i ^ j.toNat)
theorem ops_pow : OpS X (binaryOp .Pow) powF := opS_I (g' := fun i j => .int (i ^ j.toNat)) (C := CPowA) (g := fun i j => .int (i ^ j.toNat)) (opI fun _ _ _ _ _ _ _ hc q => PyProof.Rows.pow_int hc.1 hc.2 q) fun _ _ _ _ => .int _
/-! ### comparisons -/
def ltF : D → D → Option Rz := fI0 fun i j => .bl (decide (i < j))
def leF : D → D → Option Rz := fI0 fun i j => .bl (decide (i ≤ j))
def gtF : D → D → Option Rz := fI0 fun i j => .bl (decide (j < i))
def geF : D → D → Option Rz := fI0 fun i j => .bl (decide (j ≤ i))
theorem ops_lt : OpS X (compareOp .Lt) ltF := opS_I0 op_lt fun _ _ _ _ => .bl _
theorem ops_le : OpS X (compareOp .LtE) leF := opS_I0 op_le fun _ _ _ _ => .bl _
theorem ops_gt : OpS X (compareOp .Gt) gtF := opS_I0 op_gt fun _ _ _ _ => .bl _
theorem ops_ge : OpS X (compareOp .GtE) geF := opS_I0 op_ge fun _ _ _ _ => .bl _
def eqF (a b : D) : Option Rz := if cmpOk a = true ∧ cmpOk b = true then val (.bl (eqv a b)) else none
def neF (a b : D) : Option Rz := if cmpOk a = true ∧ cmpOk b = true then val (.bl (!eqv a b)) else none
theorem ops_eq (hu : X.A.units + 64 < cLine) : OpS X (compareOp .Eq) eqF := by
  refine ⟨_, op_eqD hu, fun F H x y a b z Q e ra rb q gz => ?_⟩
  unfold eqF at q
  by_cases hc : cmpOk a = true ∧ cmpOk b = true
  · rw [if_pos hc] at q
    cases q
    exact ⟨py a, py b, ra.dp e (Bool.and_eq_true_iff.mp hc.1).1, rb.dp e (Bool.and_eq_true_iff.mp hc.2).1, cmpOk.shaped hc.1, cmpOk.shaped hc.2, Gives.val gz e (.bl _)⟩
  · rw [if_neg hc] at q
    cases q
theorem ops_ne (hu : X.A.units + 64 < cLine) : OpS X (compareOp .NotEq) neF := by
  refine ⟨_, op_neD hu, fun F H x y a b z Q e ra rb q gz => ?_⟩
  unfold neF at q
  by_cases hc : cmpOk a = true ∧ cmpOk b = true
  · rw [if_pos hc] at q
    cases q
    exact ⟨py a, py b, ra.dp e (Bool.and_eq_true_iff.mp hc.1).1, rb.dp e (Bool.and_eq_true_iff.mp hc.2).1, cmpOk.shaped hc.1, cmpOk.shaped hc.2, Gives.val gz e (.bl _)⟩
  · rw [if_neg hc] at q
    cases q
/-- is None -/
def isNon : D → Option Bool
  | .non => some true
  | .oth _ => none
  | _ => some false
theorem CRep.isNon {K : PySem.W.Frag} {F H : Hp} {x : V} {d : D} {b : Bool} (h : CRep K F H x d) (q : isNon d = some b) : decide (x = .non) = b := by
  rcases h with h | ⟨a, rfl, _, o⟩
  · cases h <;> first | (cases q; rfl) | cases q
  · cases d <;> first | (cases q; rfl) | exact o.elim
def isF (a b : D) : Option Rz := match b with
  | .non => (isNon a).bind fun k => val (.bl k)
  | _ => none
def isnF (a b : D) : Option Rz := match b with
  | .non => (isNon a).bind fun k => val (.bl (!k))
  | _ => none
theorem ops_is : OpS X (compareOp .Is) isF := by
  refine ⟨_, op_isN, fun F H x y a b z Q e ra rb q gz => ?_⟩
  cases b with
  | non =>
    unfold isF at q
    simp only at q
    cases w : isNon a with
    | none => rw [w] at q; cases q
    | some k => rw [w] at q; cases q; exact ⟨rb.non, by rw [ra.isNon w]; exact Gives.val gz e (.bl _)⟩
  | _ => cases q
theorem ops_isn : OpS X (compareOp .IsNot) isnF := by
  refine ⟨_, op_notN, fun F H x y a b z Q e ra rb q gz => ?_⟩
  cases b with
  | non =>
    unfold isnF at q
    simp only at q
    cases w : isNon a with
    | none => rw [w] at q; cases q
    | some k => rw [w] at q; cases q; exact ⟨rb.non, by rw [ra.isNon w]; exact Gives.val gz e (.bl _)⟩
  | _ => cases q
/-! ## expressions -/
variable {N : Ent} {W : Wish} {a b : Expr} {ma mb : ME} {pos : Pos}
theorem se_bin {op : Operator} {f : D → D → Option Rz} (ho : OpS X (binaryOp op) f) (ha : SE X N W a ma) (hb : SE X N W b mb) : SE X N W (.BinOp a op b pos) (mBin f ma mb) := by
  obtain ⟨r, h1, h2⟩ := ho
  exact PE.weak (pe_op h1 ha hb) fun σ H Q h => tmE_bin h2 h
theorem se_cmp {op : CmpOp} {f : D → D → Option Rz} (ho : OpS X (compareOp op) f) (ha : SE X N W a ma) (hb : SE X N W b mb) (hm : behindInMarks op b = false) : SE X N W (.Compare a [op] [b] pos) (mBin f ma mb) := by
  obtain ⟨r, h1, h2⟩ := ho
  exact PE.weak (pe_cmpR h1 ha hb hm) fun σ H Q h => tmE_bin h2 h
/-- a comparison as a test -/
def boolOf : D → Option Bool
  | .bl k => some k
  | _ => none
def mTest (m : ME) : M Bool := bnd m fun rv => match rv with
  | .val (.bl k) => ret k
  | _ => stuck
theorem tmT_test {K : PySem.W.Frag} {m : ME} {σ : L2.St} {H : Hp} {Q : Bool → Hp → Prop} (h : tmT K N W (mTest m) σ H Q) : tmE K N W m σ H fun x H' => ∃ k, x = .bl k ∧ Q k H' := by
  obtain ⟨F, env, s, h⟩ := h
  refine ⟨F, env, s, h.bnd.mono fun rv F1 H1 env1 v1 h1 x rx fx => ?_⟩
  cases rv with
  | val d =>
    cases d with
    | bl k => cases rx; exact ⟨k, rfl, Run.ret v1.sr h1⟩
    | _ => obtain ⟨_, q, _⟩ := h1; cases q
  | _ => obtain ⟨_, q, _⟩ := h1; cases q
theorem st_cmp {op : CmpOp} {f : D → D → Option Rz} (ho : OpS X (compareOp op) f) (ha : SE X N W a ma) (hb : SE X N W b mb) (hm : behindInMarks op b = false) : STt X N W (.Compare a [op] [b] pos) (mTest (mBin f ma mb)) := by
  obtain ⟨r, h1, h2⟩ := ho
  refine PT.weak (pt_cmpR h1 ha hb hm) fun σ H Q h => ?_
  exact tmE_bin (f := f) h2 (tmT_test h)
end
end PL

namespace PL
open PySem L2
/-! ## names, constants -/
def mVar (i : Nat) : ME := fun env => match env[i]? with
  | some (.fz d) => some (.ok (.val d) env)
  | some (.ow _) => some (.ok (.bor i) env)
  | some (.io _) => some (.ok (.bor i) env)
  | _ => none
def mC (d : D) : ME := ret (.val d)
section
variable {X : Cx} {N : Ent} {W : Wish} {a b c : Expr} {ma mb mc : ME} {pos : Pos}
theorem tmE_var {K : PySem.W.Frag} {i : Nat} {σ : L2.St} {H : Hp} {Q : VK} (h : tmE K N W (mVar i) σ H Q) : tVar i σ H Q := by
  obtain ⟨F, env, s, r, e, h⟩ := h
  unfold mVar at e
  cases q : env[i]? with
  | none => rw [q] at e; cases e
  | some x =>
    rw [q] at e
    cases x with
    | no => cases e
    | fz d =>
      cases e
      obtain ⟨v, e1, e2⟩ := s.fz i d q
      exact ⟨v, e1, h F H (.refl s) v e2 trivial⟩
    | ow d =>
      cases e
      obtain ⟨p, e1, e2, _⟩ := s.ow i d q
      exact ⟨_, e1, h F H (.refl s) _ ⟨e1, d, .inl (by rw [q]; rfl)⟩ trivial⟩
    | io d =>
      cases e
      obtain ⟨p, e1, e2, _⟩ := s.io i d q
      exact ⟨_, e1, h F H (.refl s) _ ⟨e1, d, .inl (by rw [q]; rfl)⟩ trivial⟩
theorem se_var (i : Nat) {x : Str} {pos : Pos} (hN : X.N[i]? = some x := by rfl) (hv : Vis X.env.scope x := by first | exact Or.inl rfl | exact Or.inr (Or.inl rfl) | exact Or.inr (Or.inr rfl)) (hd : (x == ("__debug__" : Str)) = false := by decide)
    (hcd : (x == ("__classdict__" : Str)) = false := by decide) : SE X N W (.Name x pos) (mVar i) := PE.weak (pe_var hN hv hd hcd) fun σ H Q h => tmE_var h
theorem se_c {e : Expr} {v : V} {d : D} (h : PE X e (tC v)) (r : ∀ F, Rep X.K F v d) : SE X N W e (mC d) := PE.weak h fun σ H Q ⟨F, env, s, r', e, h⟩ => by
  cases e
  exact h F H (.refl s) v (r F) trivial
theorem se_int {i : Int} {j pos} : SE X N W (.Constant (.int i) j pos) (mC (.int i)) := se_c pe_int fun _ => .int _
theorem se_bl {b : Bool} {j pos} : SE X N W (.Constant (.bool b) j pos) (mC (.bl b)) := se_c pe_bl fun _ => .bl _
theorem se_non {j pos} : SE X N W (.Constant .none j pos) (mC .non) := se_c pe_non fun _ => .non
theorem se_str {x : Str} {j pos} : SE X N W (.Constant (.str x) j pos) (mC (.str x)) := se_c pe_str fun _ => .str _
/-- a module's constant -/
theorem se_gint {x : Str} {i : Int} {t : Tok} {pos : Pos} (hg : Gl X x) (hm : X.mg x = some (.int i t)) (hd : (x == ("__debug__" : Str)) = false := by decide) : SE X N W (.Name x pos) (mC (.int i)) := se_c (pe_glob (v := .int i) hg hm ⟨t, rfl⟩ hd) fun _ => .int _
theorem se_gstr {x : Str} {i : Str} {t : Tok} {pos : Pos} (hg : Gl X x) (hm : X.mg x = some (.str i t)) (hd : (x == ("__debug__" : Str)) = false := by decide) : SE X N W (.Name x pos) (mC (.str i)) := se_c (pe_glob (v := .str i) hg hm ⟨t, rfl⟩ hd) fun _ => .str _
/-- a builtin type's name as a value -/
theorem se_ty {x : Str} {n : String} {pos : Pos} (hg : Gl X x) (hm : X.mg x = none) (hv : bootBuiltins x = some (.type n)) (hn : x ≠ "__name__" := by decide) (hd : (x == ("__debug__" : Str)) = false := by decide) : SE X N W (.Name x pos) (mC (.oth (.ty n))) :=
  se_c (pe_bltn (v := .ty n) hg hm hv rfl hn hd) fun _ => .oth _
/-- a class of one's own as a value -/
theorem se_cls {x : Str} {C : Addr} {pos : Pos} (hg : Gl X x) (hm : X.mg x = some (.ref C)) (hd : (x == ("__debug__" : Str)) = false := by decide) : SE X N W (.Name x pos) (mC (.oth (.ref C))) := se_c (pe_glob (v := .ref C) hg hm rfl hd) fun _ => .oth _

/-! ## unary -/
def UnS (X : Cx) (op : Value → Sem Value) (f : D → Option Rz) : Prop := ∃ r : V → Hp → VK → Prop, UnR X op r ∧ ∀ F H x a z Q, Same F H → CRep X.K F H x a → f a = some z → Gives X.K F H z Q → r x H Q
def negF : D → Option Rz
  | .int i => val (.int (-i))
  | _ => none
theorem se_neg (ha : SE X N W a ma) : SE X N W (.UnaryOp .USub a pos) (mUn negF ma) := PE.weak (pe_un un_neg ha) fun σ H Q h => tmE_un (f := negF) (fun F H x a z Q e ra q gz => by
  cases a with
  | int i => cases q; exact ⟨i, ra.int, Gives.val gz e (.int _)⟩
  | _ => cases q) h
def notF : D → Option Rz
  | .bl i => val (.bl (!i))
  | _ => none
theorem se_not (ha : SE X N W a ma) : SE X N W (.UnaryOp .Not a pos) (mUn notF ma) := PE.weak (pe_not ha) fun σ H Q h => tmE_un (f := notF) (r := fun x H Q => ∃ c, x = .bl c ∧ Q (.bl (!c)) H) (fun F H x a z Q e ra q gz => by
  cases a with
  | bl i => cases q; exact ⟨i, ra.bl, Gives.val gz e (.bl _)⟩
  | _ => cases q) h

/-! ## tests -/
/-- the truth of a value -/
def truD : D → Option Bool
  | .non => some false
  | .bl b => some b
  | .int i => some (i != 0)
  | .str x => if x.length ≤ sizeLine then some ((x.length : Int) != 0) else none
  | .tup xs => some (!xs.isEmpty)
  | .lst xs => some (!xs.isEmpty)
  | .rol xs => some (!xs.isEmpty)
  | .dK es => some (!es.isEmpty)
  | _ => none
theorem RepL.isEmpty {K : PySem.W.Frag} {F : Hp} {xs : List V} {ds : List D} (h : RepL K F xs ds) : (!ds.isEmpty) = !xs.isEmpty := by cases h <;> rfl
theorem CRep.tru {K : PySem.W.Frag} {F H : Hp} (e : Same F H) {x : V} {d : D} {k : Bool} (h : CRep K F H x d) (q : truD d = some k) : TruV K x H k := by
  cases d with
  | non => cases q; rw [h.non]; rfl
  | bl b => cases q; rw [h.bl]; rfl
  | int i => cases q; rw [h.int]; rfl
  | str z =>
    rw [h.str]
    unfold truD at q
    by_cases hc : z.length ≤ sizeLine
    · simp only [if_pos hc] at q; cases q; exact ⟨hc, rfl⟩
    · simp only [if_neg hc] at q; cases q
  | tup ds => cases q; obtain ⟨p, xs, rfl, h1, h2, _⟩ := h.tup e; exact .inr (.inl ⟨xs, h1, h2.isEmpty⟩)
  | lst ds => cases q; obtain ⟨p, xs, rfl, h1, h2⟩ := h.lst e; exact .inl ⟨xs, SqL.of h1, h2.isEmpty⟩
  | rol ds => cases q; obtain ⟨p, xs, rfl, h1, h2⟩ := h.rol e; exact .inl ⟨xs, h1, h2.isEmpty⟩
  | dK es =>
    cases q
    obtain ⟨p, kvs, rfl, h1, h2, h3⟩ := h.dK e
    refine .inr (.inr ⟨kvs, h1, ?_⟩)
    cases es <;> cases kvs <;> first | rfl | cases h2
  | _ => cases q
def mTruth (m : ME) : M Bool := bnd m fun rv env => match content rv env with
  | some d => (truD d).map fun k => .ok k env
  | none => none
theorem st_truth (ha : SE X N W a ma) (he : ∀ whole, isTrue a X.env whole = (do let v ← whole; standAt a.pos; holding [v] (truthy v)) := by intro _; rfl) : STt X N W a (mTruth ma) := by
  refine PT.weak (pt_truth ha he) fun σ H Q h => ?_
  obtain ⟨F, env, s, h⟩ := h
  refine ⟨F, env, s, h.bnd.mono fun rv F1 H1 env1 v1 h1 x rx fx => ?_⟩
  obtain ⟨r, e, h1⟩ := h1
  simp only at e
  cases q : content rv env1 with
  | none => rw [q] at e; cases e
  | some d =>
    rw [q] at e
    simp only at e
    cases q2 : truD d with
    | none => rw [q2] at e; cases e
    | some k => rw [q2] at e; cases e; exact ⟨k, (rx.content v1.sr q).tru v1.sr.fh q2, h1 F1 H1 (.refl v1.sr)⟩
def mNotT (t : M Bool) : M Bool := bnd t fun k => ret (!k)
theorem st_not {t : M Bool} (h : STt X N W a t) : STt X N W (.UnaryOp .Not a pos) (mNotT t) := PT.weak (pt_not h) fun σ H Q ⟨F, env, s, h⟩ =>
  ⟨F, env, s, h.bnd.mono fun k F1 H1 env1 v1 h1 => Run.ret v1.sr h1⟩
def mAndT (t u : M Bool) : M Bool := bnd t fun k => if k then u else ret false
def mOrT (t u : M Bool) : M Bool := bnd t fun k => if k then ret true else u
theorem sw_and1 {t : M Bool} (h : STt X N W a t) : SWt X N W (.BoolOp .And [a] pos) t := pw_and1 h
theorem sw_or1 {t : M Bool} (h : STt X N W a t) : SWt X N W (.BoolOp .Or [a] pos) t := pw_or1 h
theorem sw_and {t u : M Bool} {rest : List Expr} (ha : STt X N W a t) (hb : SWt X N W (.BoolOp .And (b :: rest) pos) u) : SWt X N W (.BoolOp .And (a :: b :: rest) pos) (mAndT t u) := PW.weak (pw_and ha hb) fun σ H Q ⟨F, env, s, h⟩ =>
  ⟨F, env, s, h.bnd.mono fun k F1 H1 env1 v1 h1 => by
    cases k with
    | true => exact iteT ⟨F1, env1, v1.sr, h1⟩
    | false => exact iteF (Run.ret v1.sr h1)⟩
theorem sw_or {t u : M Bool} {rest : List Expr} (ha : STt X N W a t) (hb : SWt X N W (.BoolOp .Or (b :: rest) pos) u) : SWt X N W (.BoolOp .Or (a :: b :: rest) pos) (mOrT t u) := PW.weak (pw_or ha hb) fun σ H Q ⟨F, env, s, h⟩ =>
  ⟨F, env, s, h.bnd.mono fun k F1 H1 env1 v1 h1 => by
    cases k with
    | true => exact iteT (Run.ret v1.sr h1)
    | false => exact iteF ⟨F1, env1, v1.sr, h1⟩⟩
theorem st_w {e : Expr} {t : M Bool} (h : SWt X N W e t) : STt X N W e t := h.pt
def mIfT (t u v : M Bool) : M Bool := bnd t fun k => if k then u else v
def mIf (t : M Bool) (u v : ME) : ME := bnd t fun k => if k then u else v
theorem Run.fresh {K : PySem.W.Frag} {σ : L2.St} {F H F1 H1 : Hp} {env env1 : Env} {m : ME} {Q : VK} (v : Ev K N σ F H env F1 H1 env1) (h : Run K N W m F1 H1 env1 σ (PE_ K N σ H Q)) : Run K N W m F1 H1 env1 σ (PE_ K N σ H1 Q) :=
  h.mono fun _ _ _ _ _ p => p.back v.k3
theorem se_if {t : M Bool} (ht : STt X N W c t) (ha : SE X N W a ma) (hb : SE X N W b mb) : SE X N W (.IfExp c a b pos) (mIf t ma mb) := PE.weak (pe_ifExp ht ha hb) fun σ H Q ⟨F, env, s, h⟩ =>
  ⟨F, env, s, h.bnd.mono fun k F1 H1 env1 v1 h1 => by
    cases k with
    | true => exact iteT ⟨F1, env1, v1.sr, h1.fresh v1⟩
    | false => exact iteF ⟨F1, env1, v1.sr, h1.fresh v1⟩⟩
/-! ## and, or as values, of truth values -/
def mAndV (ma mb : ME) : ME := bnd ma fun rv => match rv with
  | .val (.bl k) => if k then mb else ret (.val (.bl false))
  | _ => stuck
def mOrV (ma mb : ME) : ME := bnd ma fun rv => match rv with
  | .val (.bl k) => if k then ret (.val (.bl true)) else mb
  | _ => stuck
theorem Run.stuck {α : Type} {K : PySem.W.Frag} {σ : L2.St} {F H : Hp} {env : Env} {P : α → Hp → Hp → Env → Prop} {A : Prop} (h : Run K N W stuck F H env σ P) : A := by
  obtain ⟨_, q, _⟩ := h; cases q
theorem Run.retv {K : PySem.W.Frag} {σ : L2.St} {F H H0 : Hp} {env : Env} {d : D} {Q : VK} {v : V} (s : SR K N F H σ env) (h : Run K N W (PL.ret (Rv.val d)) F H env σ (PE_ K N σ H0 Q)) (r : Rep K F v d) : Q v H := (Run.ret s h : PE_ K N σ H0 Q (Rv.val d) F H env) v r trivial
theorem se_one {op} {m : ME} (h : SE X N W a m) : SE X N W (.BoolOp op [a] pos) m := pe_one h
theorem se_and {rest : List Expr} (ha : SE X N W a ma) (hb : SE X N W (.BoolOp .And (b :: rest) pos) mb) : SE X N W (.BoolOp .And (a :: b :: rest) pos) (mAndV ma mb) := PE.weak (pe_and ha hb) fun σ H Q ⟨F, env, s, h⟩ =>
  ⟨F, env, s, h.bnd.mono fun rv F1 H1 env1 v1 h1 x rx fx => by
    cases rv with
    | val d =>
      cases d with
      | bl k =>
        cases rx
        cases k with
        | true => exact ⟨true, rfl, iteT ⟨F1, env1, v1.sr, Run.fresh v1 h1⟩⟩
        | false => exact ⟨false, rfl, iteF (Run.retv v1.sr h1 (.bl false))⟩
      | _ => exact Run.stuck h1
    | _ => exact Run.stuck h1⟩
theorem se_or {rest : List Expr} (ha : SE X N W a ma) (hb : SE X N W (.BoolOp .Or (b :: rest) pos) mb) : SE X N W (.BoolOp .Or (a :: b :: rest) pos) (mOrV ma mb) := PE.weak (pe_or ha hb) fun σ H Q ⟨F, env, s, h⟩ =>
  ⟨F, env, s, h.bnd.mono fun rv F1 H1 env1 v1 h1 x rx fx => by
    cases rv with
    | val d =>
      cases d with
      | bl k =>
        cases rx
        cases k with
        | true => exact ⟨true, rfl, iteT (Run.retv v1.sr h1 (.bl true))⟩
        | false => exact ⟨false, rfl, iteF ⟨F1, env1, v1.sr, Run.fresh v1 h1⟩⟩
      | _ => exact Run.stuck h1
    | _ => exact Run.stuck h1⟩
/-! ## chains -/
def mLink (f : D → D → Option Rz) (ra rb : Rv) (k : ME) : ME := bnd (prim2 f ra rb) fun z => match z with
  | .val (.bl true) => k
  | .val (.bl false) => ret (.val (.bl false))
  | _ => stuck
def mChain (f g : D → D → Option Rz) (ma mb mc : ME) : ME := bnd ma fun ra => bnd mb fun rb => mLink f ra rb (bnd mc fun rc => prim2 g rb rc)
theorem run_prim2 {K : PySem.W.Frag} {σ : L2.St} {f : D → D → Option Rz} {r : R2} (hr : ∀ F H x y a b z Q, Same F H → CRep K F H x a → CRep K F H y b → f a b = some z → Gives K F H z Q → r x y H Q) {ra rb : Rv} {x y : V} {F H H0 : Hp} {env : Env} {Q : VK}
    (s : SR K N F H σ env) (k3 : ∀ a, H0 a ≠ none → H a ≠ none) (rx : RepV K N F H σ env ra x) (ry : RepV K N F H σ env rb y) (h : Run K N W (prim2 f ra rb) F H env σ (PE_ K N σ H0 Q)) : r x y H Q := by
  obtain ⟨a, b, z, qa, qb, qf, h3⟩ := h.prim2
  exact hr F H x y a b z Q s.fh (rx.content s qa) (ry.content s qb) qf (Gives.of (W := W) s (h3.mono fun rv F3 H3 env3 v3 p => p.back k3))
theorem run_link {K : PySem.W.Frag} {σ : L2.St} {f : D → D → Option Rz} {r : R2} (hr : ∀ F H x y a b z Q, Same F H → CRep K F H x a → CRep K F H y b → f a b = some z → Gives K F H z Q → r x y H Q) {ra rb : Rv} {x y : V} {F H H0 : Hp} {env : Env} {Q : VK} {k : ME}
    (s : SR K N F H σ env) (rx : RepV K N F H σ env ra x) (ry : RepV K N F H σ env rb y) (h : Run K N W (mLink f ra rb k) F H env σ (PE_ K N σ H0 Q)) {T : Hp → Prop} (ht : ∀ F3 H3 env3, Ev K N σ F H env F3 H3 env3 → Run K N W k F3 H3 env3 σ (PE_ K N σ H0 Q) → T H3) :
    r x y H fun z H3 => ∃ b, z = .bl b ∧ if b = true then T H3 else Q (.bl false) H3 := by
  have h2 := h.bnd
  refine run_prim2 (W := W) (H0 := H) hr s (fun _ q => q) rx ry (h2.mono fun rv F3 H3 env3 v3 h3 v rv' fv => ?_)
  cases rv with
  | val d =>
    cases d with
    | bl b =>
      cases rv'
      cases b with
      | true => exact ⟨true, rfl, iteT (ht F3 H3 env3 v3 h3)⟩
      | false => exact ⟨false, rfl, iteF (Run.retv v3.sr h3 (.bl false))⟩
    | _ => exact Run.stuck h3
  | _ => exact Run.stuck h3
variable {op op' op'' : CmpOp} {f g h' : D → D → Option Rz}
theorem tmE_chain {K : PySem.W.Frag} {r r' : R2} (h2 : ∀ F H x y a b z Q, Same F H → CRep K F H x a → CRep K F H y b → f a b = some z → Gives K F H z Q → r x y H Q) (h2' : ∀ F H x y a b z Q, Same F H → CRep K F H x a → CRep K F H y b → g a b = some z → Gives K F H z Q → r' x y H Q)
    {σ : L2.St} {H : Hp} {Q : VK} (h : tmE K N W (mChain f g ma mb mc) σ H Q) : tChain r r' (tmE K N W ma) (tmE K N W mb) (tmE K N W mc) σ H Q := by
  obtain ⟨F, env, s, h⟩ := h
  refine ⟨F, env, s, h.bnd.mono fun ra F1 H1 env1 v1 q1 x rx fx => ⟨F1, env1, v1.sr, q1.bnd.mono fun rb F2 H2 env2 v2 q2 y ry fy => ?_⟩⟩
  refine run_link h2 v2.sr (rx.ev v2) ry q2 fun F3 H3 env3 v3 q3 => ⟨F3, env3, v3.sr, q3.bnd.mono fun rc F4 H4 env4 v4 q4 w rw fw => ?_⟩
  exact run_prim2 h2' v4.sr (fun a q => v4.k3 a (v3.k3 a (v2.k3 a (v1.k3 a q)))) ((ry.ev v3).ev v4) rw q4
theorem se_chain (ho : OpS X (compareOp op) f) (ho' : OpS X (compareOp op') g) (ha : SE X N W a ma) (hb : SE X N W b mb) (hc : SE X N W c mc) (hm : lastMarks [op, op'] [b, c] = false := by with_unfolding_all rfl) :
    SE X N W (.Compare a [op, op'] [b, c] pos) (mChain f g ma mb mc) := by
  obtain ⟨r, h1, h2⟩ := ho
  obtain ⟨r', h1', h2'⟩ := ho'
  exact PE.weak (pe_chain h1 h1' ha hb hc hm) fun σ H Q h => tmE_chain h2 h2' h
theorem st_chain (ho : OpS X (compareOp op) f) (ho' : OpS X (compareOp op') g) (ha : SE X N W a ma) (hb : SE X N W b mb) (hc : SE X N W c mc) (hm : lastMarks [op, op'] [b, c] = false := by with_unfolding_all rfl) :
    STt X N W (.Compare a [op, op'] [b, c] pos) (mTest (mChain f g ma mb mc)) := by
  obtain ⟨r, h1, h2⟩ := ho
  obtain ⟨r', h1', h2'⟩ := ho'
  exact PT.weak (pt_chain h1 h1' ha hb hc hm) fun σ H Q h => tmE_chain h2 h2' (tmT_test h)
/-- three -/
def tChain3 (r r' r'' : R2) (ta tb tc td : TE) : TE := fun σ H Q => ta σ H fun x H1 => tb σ H1 fun y H2 => r x y H2 fun z H3 => ∃ k, z = .bl k ∧
  (if k = true then tc σ H3 fun w H4 => r' y w H4 fun z' H5 => ∃ k', z' = .bl k' ∧ (if k' = true then td σ H5 fun u H6 => r'' w u H6 Q else Q (.bl false) H5) else Q (.bl false) H3)
theorem pt_chain3 {d : Expr} {r r' r'' : R2} {ta tb tc td : TE} (ho : OpR X (compareOp op) r) (ho' : OpR X (compareOp op') r') (ho'' : OpR X (compareOp op'') r'') (ha : PE X a ta) (hb : PE X b tb) (hc : PE X c tc) (hd : PE X d td)
    (hm : lastMarks [op, op', op''] [b, c, d] = false := by with_unfolding_all rfl) : PT X (.Compare a [op, op', op''] [b, c, d] pos) (tTest (tChain3 r r' r'' ta tb tc td)) := by
  refine ⟨fun pins s σ H Q I h => ?_⟩
  refine PyProof.Rows.isTrue_chain (thn (ha.run pins s σ H _ I h) fun v s1 ⟨x, H1, I1, r1, q1⟩ => PyProof.Rows.test_link (thn (hb.run pins s1 σ H1 _ I1 q1) fun u s2 ⟨y, H2, I2, r2, q2⟩ =>
    thn (ho pins s2 σ H2 x y v u _ I2 r1 r2 q2) fun d s3 ⟨z, H3, I3, r3, k, e, q3⟩ => ?_)) hm
  subst e
  cases r3
  refine wpAny_truthy_bool ?_
  cases k with
  | false =>
    obtain ⟨k', e', q'⟩ := q3
    cases e'
    exact PyProof.Rows.ite_ff ⟨H3, I3, q'⟩
  | true =>
    refine PyProof.Rows.ite_tt (PyProof.Rows.test_link (thn (hc.run pins s3 σ H3 _ I3 q3) fun w' s4 ⟨z', H4, I4, r4, q4⟩ => thn (ho' pins s4 σ H4 y z' u w' _ I4 r2 r4 q4) fun d' s5 ⟨z2, H5, I5, r5, k2, e2, q5⟩ => ?_))
    subst e2
    cases r5
    refine wpAny_truthy_bool ?_
    cases k2 with
    | false =>
      obtain ⟨k', e', q'⟩ := q5
      cases e'
      exact PyProof.Rows.ite_ff ⟨H5, I5, q'⟩
    | true =>
      refine PyProof.Rows.ite_tt (PyProof.Rows.test_last (thn (hd.run pins s5 σ H5 _ I5 q5) fun w2 s6 ⟨z3, H6, I6, r6, q6⟩ => thn (ho'' pins s6 σ H6 z' z3 w' w2 _ I6 r4 r6 q6) fun d2 s7 ⟨z4, H7, I7, r7, k3, e3, q7⟩ => ?_))
      subst e3
      cases r7
      exact wpAny_truthy_bool ⟨H7, I7, q7⟩
def mChain3 (f g h : D → D → Option Rz) (ma mb mc md : ME) : ME := bnd ma fun ra => bnd mb fun rb => mLink f ra rb (bnd mc fun rc => mLink g rb rc (bnd md fun rd => prim2 h rc rd))
theorem st_chain3 {d : Expr} {md : ME} (ho : OpS X (compareOp op) f) (ho' : OpS X (compareOp op') g) (ho'' : OpS X (compareOp op'') h') (ha : SE X N W a ma) (hb : SE X N W b mb) (hc : SE X N W c mc) (hd : SE X N W d md) (hm : lastMarks [op, op', op''] [b, c, d] = false := by with_unfolding_all rfl) :
    STt X N W (.Compare a [op, op', op''] [b, c, d] pos) (mTest (mChain3 f g h' ma mb mc md)) := by
  obtain ⟨r, h1, h2⟩ := ho
  obtain ⟨r', h1', h2'⟩ := ho'
  obtain ⟨r'', h1'', h2''⟩ := ho''
  refine PT.weak (pt_chain3 h1 h1' h1'' ha hb hc hd hm) fun σ H Q h => ?_
  obtain ⟨F, env, s, h⟩ := tmT_test h
  refine ⟨F, env, s, h.bnd.mono fun ra F1 H1 env1 v1 q1 x rx fx => ⟨F1, env1, v1.sr, q1.bnd.mono fun rb F2 H2 env2 v2 q2 y ry fy => ?_⟩⟩
  refine run_link h2 v2.sr (rx.ev v2) ry q2 fun F3 H3 env3 v3 q3 => ⟨F3, env3, v3.sr, q3.bnd.mono fun rc F4 H4 env4 v4 q4 w rw fw => ?_⟩
  refine run_link h2' v4.sr ((ry.ev v3).ev v4) rw q4 fun F5 H5 env5 v5 q5 => ⟨F5, env5, v5.sr, q5.bnd.mono fun rd F6 H6 env6 v6 q6 u ru fu => ?_⟩
  exact run_prim2 h2'' v6.sr (fun a q => v6.k3 a (v5.k3 a (v4.k3 a (v3.k3 a (v2.k3 a (v1.k3 a q)))))) ((rw.ev v5).ev v6) ru q6
end
end PL

namespace PL
open PySem L2
/-! ## argument lists -/
/-- settled: plain data -/
def mD (m : ME) : M D := bnd m fun rv env => match settle rv env with
  | some (d, e) => some (.ok d e)
  | none => none
def mNil : M (List D) := ret []
def mCons (m : ME) (t : M (List D)) : M (List D) := bnd (mD m) fun d => bnd t fun ds => ret (d :: ds)
section
variable {K : PySem.W.Frag} {N : Ent} {W : Wish} {σ : L2.St} {F H : Hp} {env : Env} {α β : Type}
theorem Run.assoc {m : M α} {f : α → M β} {γ : Type} {g : β → M γ} {P : γ → Hp → Hp → Env → Prop} (h : Run K N W (PL.bnd (PL.bnd m f) g) F H env σ P) : Run K N W (PL.bnd m fun a => PL.bnd (f a) g) F H env σ P := by
  obtain ⟨r, e, h⟩ := h
  refine ⟨r, ?_, h⟩
  rw [← e]
  unfold PL.bnd
  cases m env with
  | none => rfl
  | some x => cases x <;> rfl
theorem tmE_d {m : ME} {H : Hp} {P : D → Hp → Hp → Env → Prop} {Q : VK} (s : SR K N F H σ env) (h : Run K N W (mD m) F H env σ P) (k : ∀ d F1 H1 env1 v, Ev K N σ F H env F1 H1 env1 → Rep K F1 v d → P d F1 H1 env1 → Q v H1) : tmE K N W m σ H Q := by
  refine ⟨F, env, s, ?_⟩
  obtain ⟨r, e, h⟩ := h
  unfold mD PL.bnd at e
  cases q : m env with
  | none => rw [q] at e; cases e
  | some x =>
    rw [q] at e
    cases x with
    | exc x e' => cases e; exact ⟨_, q, h⟩
    | ok rv e' =>
      refine ⟨_, q, fun F1 H1 v1 v rv' fv => ?_⟩
      simp only at e
      cases q2 : settle rv e' with
      | none => rw [q2] at e; cases e
      | some y =>
        obtain ⟨d, e2⟩ := y
        rw [q2] at e
        cases e
        obtain ⟨F2, v2, rr⟩ := RepV.settle v1 rv' fv q2
        exact k d F2 H1 e2 v v2 rr (h F2 H1 v2)
end
section
variable {X : Cx} {N : Ent} {W : Wish} {e : Expr} {es : List Expr} {m : ME} {t : M (List D)} {pos p : Pos}
theorem sa_nil : SA X N W [] mNil := PA.weak pa_nil fun σ H Q ⟨F, env, s, h⟩ => (Run.ret s h) [] .nil
theorem sa_cons (he : SE X N W e m) (hr : SA X N W es t) (hs : starEach (e :: es) X.env = (false, eval e X.env) :: starEach es X.env := by rfl) : SA X N W (e :: es) (mCons m t) := PA.weak (pa_cons he hr hs) fun σ H Q ⟨F, env, s, h⟩ =>
  tmE_d s h.bnd fun d F1 H1 env1 v v1 rr h1 => ⟨F1, env1, v1.sr, h1.bnd.mono fun ds F2 H2 env2 v2 h2 vs rs => Run.ret v2.sr h2 _ (.cons (rr.mono v2.ff) rs)⟩
/-- *e -/
def mStar (m : ME) (t : M (List D)) : M (List D) := bnd m fun rv env => match (content rv env).bind items with
  | some ds => bnd t (fun es => ret (ds ++ es)) env
  | none => none
theorem sa_star (he : SE X N W e m) (hr : SA X N W es t) (hs : starEach (.Starred e p :: es) X.env = (true, eval e X.env) :: starEach es X.env := by rfl) : SA X N W (.Starred e p :: es) (mStar m t) := PA.weak (StX.pa_star he hr hs) fun σ H Q ⟨F, env, s, h⟩ => by
  refine ⟨F, env, s, h.bnd.mono fun rv F1 H1 env1 v1 h1 x rx fx => ?_⟩
  obtain ⟨r, q, h1⟩ := h1
  simp only at q
  cases q1 : content rv env1 with
  | none => rw [q1] at q; cases q
  | some d =>
    rw [q1] at q
    simp only [Option.bind_some] at q
    cases q2 : items d with
    | none => rw [q2] at q; cases q
    | some ds =>
      rw [q2] at q
      simp only at q
      obtain ⟨a, xs, rfl, hx, rr⟩ := (rx.content v1.sr q1).items v1.sr.fh q2
      have h2 : Run X.K N W (PL.bnd t fun es => ret (ds ++ es)) F1 H1 env1 σ _ := ⟨r, q, h1⟩
      exact ⟨a, xs, rfl, hx.symm, F1, env1, v1.sr, h2.bnd.mono fun es F2 H2 env2 v2 h3 vs rs => Run.ret v2.sr h3 _ ((rr.mono v2.ff).append rs)⟩
def mTup (t : M (List D)) : ME := bnd t fun ds => if ds.length ≤ sizeLine then ret (.val (.tup ds)) else stuck
def mLst (t : M (List D)) : ME := bnd t fun ds => if ds.length ≤ sizeLine then ret (.new (.lst ds)) else stuck
theorem se_tup {x1} (h : SA X N W es t) : SE X N W (.Tuple es x1 pos) (mTup t) := PE.weak (pe_tup h) fun σ H Q ⟨F, env, s, h⟩ => by
  refine ⟨F, env, s, h.bnd.mono fun ds F1 H1 env1 v1 h1 vs rs => ?_⟩
  by_cases hc : ds.length ≤ sizeLine
  · simp only [if_pos hc] at h1
    exact ⟨by rw [rs.length]; exact hc, (Gives.of (W := W) (z := (false, .tup ds)) v1.sr (h1.fresh v1)).newT v1.sr.fh rs⟩
  · simp only [if_neg hc] at h1
    exact h1.stuck
theorem se_lst (h : SA X N W es t) : SE X N W (.List es pos) (mLst t) := PE.weak (pe_lst h) fun σ H Q ⟨F, env, s, h⟩ => by
  refine ⟨F, env, s, h.bnd.mono fun ds F1 H1 env1 v1 h1 vs rs => ?_⟩
  by_cases hc : ds.length ≤ sizeLine
  · simp only [if_pos hc] at h1
    exact ⟨by rw [rs.length]; exact hc, (Gives.of (W := W) (z := (true, .lst ds)) v1.sr (h1.fresh v1)).newL v1.sr.fh rs⟩
  · simp only [if_neg hc] at h1
    exact h1.stuck
/-- {} -/
def mDict0 : ME := ret (.new (.dK []))
theorem se_dict0 : SE X N W (.Dict [] [] pos) mDict0 := PE.weak pe_dnewK fun σ H Q ⟨F, env, s, h⟩ p hp =>
  (Gives.of (W := W) (z := (true, .dK [])) s h) p F _ (.made s.fh hp) ⟨s.fh.free hp, [], upd_same, rfl, .nil⟩ hp

/-! ## subscripts, slices -/
theorem RepL.atI {K : PySem.W.Frag} {F : Hp} {xs : List V} {ds : List D} (h : RepL K F xs ds) {i : Int} {d : D} (q : atI ds i = some d) : ∃ v, L2.atI xs i = some v ∧ Rep K F v d := by
  unfold L2.atI at q ⊢
  rw [h.length]
  cases w : ixN ds.length i with
  | none => rw [w] at q; cases q
  | some j => rw [w] at q; exact h.get q
def ixF (a b : D) : Option Rz := match b with
  | .int i => match a with
    | .str z => if z.length ≤ sizeLine then (L2.atI z.cps.toList i).bind fun c => val (.str ⟨#[c]⟩) else none
    | _ => (items a).bind fun ds => (L2.atI ds i).bind fun d => val d
  | _ => none
theorem ixF_ok {K : PySem.W.Frag} : ∀ F H x y a b z Q, Same F H → CRep K F H x a → CRep K F H y b → ixF a b = some z → Gives K F H z Q → rIx K x y H Q := fun F H x y a b z Q e ra rb q gz => by
  cases b with
  | int i =>
    obtain rfl := rb.int
    have go : ∀ ds, items a = some ds → (L2.atI ds i).bind (fun d => val d) = some z → rIx K x (.int i) H Q := fun ds h1 h2 => by
      cases w : L2.atI ds i with
      | none => rw [w] at h2; cases h2
      | some d =>
        rw [w] at h2
        cases h2
        obtain ⟨p, xs, rfl, hx, rr⟩ := ra.items e h1
        obtain ⟨v, w1, w2⟩ := rr.atI w
        rcases hx with hx | hx
        · exact .inl ⟨p, xs, i, v, rfl, rfl, hx, w1, Gives.val gz e w2⟩
        · exact .inr (.inl ⟨p, xs, i, v, rfl, rfl, hx, w1, Gives.val gz e w2⟩)
    unfold ixF at q
    cases a with
    | str s =>
      simp only at q
      split at q
      · rename_i hz
        cases w : L2.atI s.cps.toList i with
        | none => rw [w] at q; cases q
        | some c => rw [w] at q; cases q; exact .inr (.inr ⟨s, i, c, ra.str, rfl, hz, w, Gives.val gz e (.str _)⟩)
      · cases q
    | tup ds => exact go ds rfl q
    | lst ds => exact go ds rfl q
    | rol ds => exact go ds rfl q
    | _ => cases q
  | _ => cases q
variable {a b : Expr} {ma mb : ME}
theorem se_ix (ha : SE X N W a ma) (hb : SE X N W b mb) (hs : PlainIx b := by exact fun _ _ => rfl) : SE X N W (.Subscript a b pos) (mBin ixF ma mb) := PE.weak (pe_ix ix_seq ha hb hs) fun σ H Q h => tmE_bin (fun F H x y a b z Q => ixF_ok F H x y a b z Q) h
/-- a part of a slice -/
def mNoPart : M (Option Int) := ret none
def mPart (m : ME) : M (Option Int) := bnd m fun rv => match rv with
  | .val (.int i) => ret (some i)
  | _ => stuck
def tmO (K : PySem.W.Frag) (N : Ent) (W : Wish) (m : M (Option Int)) : TO := fun σ H Q => ∃ F env, SR K N F H σ env ∧ Run K N W m F H env σ (fun o _ H' _ => Q o H')
abbrev SO (X : Cx) (N : Ent) (W : Wish) (e : Option Expr) (m : M (Option Int)) : Prop := PO X e (tmO X.K N W m)
theorem PO.weak {X : Cx} {e : Option Expr} {t t' : TO} (h : PO X e t) (w : ∀ σ H Q, t' σ H Q → t σ H Q) : PO X e t' := ⟨fun pins s σ H Q I q => h.run pins s σ H Q I (w σ H Q q)⟩
theorem so_none : SO X N W none mNoPart := PO.weak po_none fun σ H Q ⟨F, env, s, h⟩ => Run.ret s h
theorem so_some (h : SE X N W e m) : SO X N W (some e) (mPart m) := PO.weak (po_some h) fun σ H Q ⟨F, env, s, h⟩ => ⟨F, env, s, h.bnd.mono fun rv F1 H1 env1 v1 h1 x rx fx => by
  cases rv with
  | val d =>
    cases d with
    | int i => cases rx; exact ⟨i, rfl, Run.ret v1.sr h1⟩
    | _ => exact h1.stuck
  | _ => exact h1.stuck⟩
/-- a slice of items -/
def cutD (ds : List D) (lo hi : Option Int) : List D := (ds.drop (HT.sIx ds.length 0 lo)).take (HT.sIx ds.length ds.length hi - HT.sIx ds.length 0 lo)
theorem RepL.cut {K : PySem.W.Frag} {F : Hp} {xs : List V} {ds : List D} (h : RepL K F xs ds) (lo hi : Option Int) : RepL K F (cutV xs lo hi) (cutD ds lo hi) := by
  unfold cutV cutD
  rw [h.length]
  exact (h.drop _).take _
def slF (d : D) (lo hi : Option Int) : Option Rz := match d with
  | .tup ds => val (.tup (cutD ds lo hi))
  | .lst ds => new (.lst (cutD ds lo hi))
  | .rol ds => new (.lst (cutD ds lo hi))
  | _ => none
def mSl (ma : ME) (ml mh : M (Option Int)) : ME := bnd ma fun ra => bnd ml fun lo => bnd mh fun hi => prim1 (fun d => slF d lo hi) ra
theorem se_slice {lo hi : Option Expr} {ml mh : M (Option Int)} {p2 : Pos} (ha : SE X N W a ma) (hl : SO X N W lo ml) (hh : SO X N W hi mh) : SE X N W (.Subscript a (.Slice lo hi none p2) pos) (mSl ma ml mh) :=
  PE.weak (pe_slice (sl_tupA.or sl_list) ha hl hh) fun σ H Q ⟨F, env, s, h⟩ => by
  refine ⟨F, env, s, h.bnd.mono fun ra F1 H1 env1 v1 h1 x rx fx => ⟨F1, env1, v1.sr, h1.bnd.mono fun l F2 H2 env2 v2 h2 => ⟨F2, env2, v2.sr, h2.bnd.mono fun u F3 H3 env3 v3 h3 => ?_⟩⟩⟩
  obtain ⟨d, z, qa, qf, h4⟩ := h3.prim1
  have cr := ((rx.ev v2).ev v3).content v3.sr qa
  have gz : Gives X.K F3 H3 z Q := Gives.of (W := W) v3.sr (h4.mono fun rv F4 H4 env4 v4 p => p.back fun a q => v3.k3 a (v2.k3 a (v1.k3 a q)))
  cases d with
  | tup ds =>
    cases qf
    obtain ⟨p, xs, rfl, hx, rr, r0⟩ := cr.tup v3.sr.fh
    refine .inl ⟨p, xs, rfl, hx, fun ⟨w1, w2⟩ => ?_, fun _ => gz.newT v3.sr.fh (rr.cut l u)⟩
    have e : cutD ds l u = ds := by
      rw [rr.length] at w1 w2
      unfold cutD
      rw [w1, w2, List.drop_zero, Nat.sub_zero, List.take_length]
    rw [e] at gz
    exact Gives.val gz v3.sr.fh r0
  | lst ds =>
    cases qf
    obtain ⟨p, xs, rfl, hx, rr⟩ := cr.lst v3.sr.fh
    exact .inr ⟨p, xs, rfl, SqL.of hx, gz.newL v3.sr.fh (rr.cut l u)⟩
  | rol ds =>
    cases qf
    obtain ⟨p, xs, rfl, hx, rr⟩ := cr.rol v3.sr.fh
    exact .inr ⟨p, xs, rfl, hx, gz.newL v3.sr.fh (rr.cut l u)⟩
  | _ => cases qf
end
/-! ## arguments that are read alone -/
def mRNil : M (List Rv) := ret []
def mRCons (m : ME) (t : M (List Rv)) : M (List Rv) := bnd m fun rv => bnd t fun rvs => ret (rv :: rvs)
inductive RepVs (K : PySem.W.Frag) (N : Ent) (F H : Hp) (σ : L2.St) (env : Env) : List Rv → List V → Prop
  | nil : RepVs K N F H σ env [] []
  | cons {rv : Rv} {v : V} {rvs : List Rv} {vs : List V} : RepV K N F H σ env rv v → RepVs K N F H σ env rvs vs → RepVs K N F H σ env (rv :: rvs) (v :: vs)
def tmR (K : PySem.W.Frag) (N : Ent) (W : Wish) (m : M (List Rv)) : TA := fun σ H Q => ∃ F env, SR K N F H σ env ∧ Run K N W m F H env σ (fun rvs F' H' env' => ∀ vs, RepVs K N F' H' σ env' rvs vs → Q vs H')
abbrev SAr (X : Cx) (N : Ent) (W : Wish) (e : List Expr) (m : M (List Rv)) : Prop := PA X e (tmR X.K N W m)
def contents : List Rv → Env → Option (List D)
  | [], _ => some []
  | rv :: rvs, env => match content rv env, contents rvs env with
    | some d, some ds => some (d :: ds)
    | _, _ => none
inductive CReps (K : PySem.W.Frag) (F H : Hp) : List V → List D → Prop
  | nil : CReps K F H [] []
  | cons {v : V} {d : D} {vs : List V} {ds : List D} : CRep K F H v d → CReps K F H vs ds → CReps K F H (v :: vs) (d :: ds)
theorem RepVs.contents {K : PySem.W.Frag} {N : Ent} {F H : Hp} {σ : L2.St} {env : Env} (s : SR K N F H σ env) : ∀ {rvs : List Rv} {vs : List V} {ds : List D}, RepVs K N F H σ env rvs vs → contents rvs env = some ds → CReps K F H vs ds
  | _, _, _, .nil, h => by cases h; exact .nil
  | _, _, _, .cons (rv := rv) (rvs := rvs) r t, h => by
    unfold PL.contents at h
    cases q1 : content rv env with
    | none => rw [q1] at h; cases h
    | some d =>
      cases q2 : PL.contents rvs env with
      | none => rw [q1, q2] at h; cases h
      | some ds => rw [q1, q2] at h; cases h; exact .cons (r.content s q1) (t.contents s q2)
section
variable {X : Cx} {N : Ent} {W : Wish} {e : Expr} {es : List Expr} {m : ME} {t : M (List Rv)} {pos p : Pos}
theorem sr_nil : SAr X N W [] mRNil := PA.weak pa_nil fun σ H Q ⟨F, env, s, h⟩ => (Run.ret s h) [] .nil
theorem sr_cons (he : SE X N W e m) (hr : SAr X N W es t) (hs : starEach (e :: es) X.env = (false, eval e X.env) :: starEach es X.env := by rfl) : SAr X N W (e :: es) (mRCons m t) := PA.weak (pa_cons he hr hs) fun σ H Q ⟨F, env, s, h⟩ =>
  ⟨F, env, s, h.bnd.mono fun rv F1 H1 env1 v1 h1 x rx fx => ⟨F1, env1, v1.sr, h1.bnd.mono fun rvs F2 H2 env2 v2 h2 vs rs => Run.ret v2.sr h2 _ (.cons (rx.ev v2) rs)⟩⟩
/-! ## builtins that are called -/
def CallS (X : Cx) (f : Value) (g : List D → Option Rz) : Prop := ∃ r : List V → Hp → VK → Prop, CallR X f r ∧ ∀ F H xs ds z Q, Same F H → CReps X.K F H xs ds → g ds = some z → Gives X.K F H z Q → r xs H Q
def mCallB (g : List D → Option Rz) (t : M (List Rv)) : ME := bnd t fun rvs env => match (contents rvs env).bind g with
  | some z => some (.ok z.rv env)
  | none => none
theorem tmE_callB {K : PySem.W.Frag} {g : List D → Option Rz} {r : List V → Hp → VK → Prop} (hr : ∀ F H xs ds z Q, Same F H → CReps K F H xs ds → g ds = some z → Gives K F H z Q → r xs H Q) {σ : L2.St} {H : Hp} {Q : VK} (h : tmE K N W (mCallB g t) σ H Q) :
    tCB r (tmR K N W t) σ H Q := by
  obtain ⟨F, env, s, h⟩ := h
  refine ⟨F, env, s, h.bnd.mono fun rvs F1 H1 env1 v1 h1 vs rs => ?_⟩
  obtain ⟨r', e, h1⟩ := h1
  simp only at e
  cases q1 : contents rvs env1 with
  | none => rw [q1] at e; cases e
  | some ds =>
    rw [q1] at e
    simp only [Option.bind_some] at e
    cases q2 : g ds with
    | none => rw [q2] at e; cases e
    | some z =>
      rw [q2] at e
      cases e
      exact hr F1 H1 vs ds z Q v1.sr.fh (rs.contents v1.sr q1) q2 (Gives.of (W := W) v1.sr ⟨_, rfl, fun F2 H2 v2 => (h1 F2 H2 v2 : PE_ K N σ H Q z.rv F2 H2 env1).back v1.k3⟩)
theorem se_callB {x : Str} {id : String} {g : List D → Option Rz} (hc : CallS X (.builtin id) g) (hg : Gl X x) (hm : X.mg x = none) (hv : bootBuiltins x = some (.builtin id)) (ha : SAr X N W (e :: es) t) (hn : x ≠ "__name__" := by decide) (hdb : (x == ("__debug__" : Str)) = false := by decide)
    (he : starEach (e :: es) X.env = (false, eval e X.env) :: starEach es X.env := by rfl) (hpl : (backTo pos (starEach es X.env)).any (·.1) = false := by rfl) : SE X N W (.Call (.Name x p) (e :: es) [] pos) (mCallB g t) := by
  obtain ⟨r, h1, h2⟩ := hc
  exact PE.weak (pe_callB h1 hg hm hv ha hn hdb he hpl) fun σ H Q h => tmE_callB h2 h
theorem se_callTy {x : Str} {T : String} {g : List D → Option Rz} (hc : CallS X (.type T) g) (hg : Gl X x) (hm : X.mg x = none) (hv : bootBuiltins x = some (.type T)) (ha : SAr X N W (e :: es) t) (hn : x ≠ "__name__" := by decide) (hdb : (x == ("__debug__" : Str)) = false := by decide)
    (he : starEach (e :: es) X.env = (false, eval e X.env) :: starEach es X.env := by rfl) (hpl : (backTo pos (starEach es X.env)).any (·.1) = false := by rfl) : SE X N W (.Call (.Name x p) (e :: es) [] pos) (mCallB g t) := by
  obtain ⟨r, h1, h2⟩ := hc
  exact PE.weak (pe_callTy h1 hg hm hv ha hn hdb he hpl) fun σ H Q h => tmE_callB h2 h
end
end PL

namespace PL
open PySem L2
section
variable {K : PySem.W.Frag} {F H : Hp}
theorem CReps.one {xs : List V} {d : D} (h : CReps K F H xs [d]) : ∃ x, xs = [x] ∧ CRep K F H x d := by
  cases h with
  | cons r t => cases t; exact ⟨_, rfl, r⟩
theorem CReps.two {xs : List V} {d e : D} (h : CReps K F H xs [d, e]) : ∃ x y, xs = [x, y] ∧ CRep K F H x d ∧ CRep K F H y e := by
  cases h with
  | cons r t =>
    cases t with
    | cons r' t' => cases t'; exact ⟨_, _, rfl, r, r'⟩
/-- a list of ints, of truth values -/
def intsD : List D → Option (List Int)
  | [] => some []
  | .int i :: ds => (intsD ds).map (i :: ·)
  | _ => none
def blsD : List D → Option (List Bool)
  | [] => some []
  | .bl i :: ds => (blsD ds).map (i :: ·)
  | _ => none
theorem intsD_eq : ∀ {ds : List D} {ns : List Int}, intsD ds = some ns → ds = ns.map D.int
  | [], _, h => by cases h; rfl
  | d :: ds, ns, h => by
    cases d with
    | int i =>
      unfold intsD at h
      cases q : intsD ds with
      | none => rw [q] at h; cases h
      | some ms => rw [q] at h; cases h; rw [intsD_eq q]; rfl
    | _ => cases h
theorem intsD_map : ∀ ns : List Int, intsD (ns.map D.int) = some ns
  | [] => rfl
  | n :: ns => by
    show (intsD (ns.map D.int)).map (n :: ·) = _
    rw [intsD_map ns]; rfl
theorem blsD_eq : ∀ {ds : List D} {ns : List Bool}, blsD ds = some ns → ds = ns.map D.bl
  | [], _, h => by cases h; rfl
  | d :: ds, ns, h => by
    cases d with
    | bl i =>
      unfold blsD at h
      cases q : blsD ds with
      | none => rw [q] at h; cases h
      | some ms => rw [q] at h; cases h; rw [blsD_eq q]; rfl
    | _ => cases h
theorem blsD_map : ∀ ns : List Bool, blsD (ns.map D.bl) = some ns
  | [] => rfl
  | n :: ns => by
    show (blsD (ns.map D.bl)).map (n :: ·) = _
    rw [blsD_map ns]; rfl
theorem RepL.ints : ∀ {xs : List V} {ns : List Int}, RepL K F xs (ns.map D.int) → xs = ns.map V.int
  | _, [], .nil => rfl
  | _, n :: ns, .cons h t => by cases h; rw [RepL.ints t]; rfl
theorem RepL.bls : ∀ {xs : List V} {ns : List Bool}, RepL K F xs (ns.map D.bl) → xs = ns.map V.bl
  | _, [], .nil => rfl
  | _, n :: ns, .cons h t => by cases h; rw [RepL.bls t]; rfl
theorem RepL.of_ints : ∀ (ns : List Int), RepL K F (ns.map V.int) (ns.map D.int)
  | [] => .nil
  | n :: ns => .cons (.int n) (RepL.of_ints ns)
end
section
variable {X : Cx}
def lenF : List D → Option Rz
  | [.str x] => if x.length ≤ sizeLine then val (.int (x.length : Nat)) else none
  | [d] => (items d).bind fun ds => val (.int (ds.length : Nat))
  | _ => none
theorem cs_len : CallS X (.builtin "len") lenF := by
  refine ⟨_, call_len, fun F H xs ds z Q e rs q gz => ?_⟩
  match ds, rs, q with
  | [d], rs, q =>
    obtain ⟨x, rfl, r⟩ := rs.one
    have go : ∀ es, items d = some es → z = (false, .int (es.length : Nat)) → ∃ x' n, [x] = [x'] ∧ LenV X.K x' H n ∧ Q (.int n) H := fun es h1 h2 => by
      subst h2
      obtain ⟨p, ys, rfl, hx, rr⟩ := r.items e h1
      refine ⟨_, es.length, rfl, ?_, Gives.val gz e (.int _)⟩
      rcases hx with hx | hx
      · exact .inl ⟨ys, hx, rr.length.symm⟩
      · exact .inr ⟨ys, hx, rr.length.symm⟩
    cases d with
    | str s =>
      obtain rfl := r.str
      unfold lenF at q
      by_cases hc : s.length ≤ sizeLine
      · simp only [if_pos hc] at q; cases q; exact ⟨_, s.length, rfl, ⟨hc, rfl⟩, Gives.val gz e (.int _)⟩
      · simp only [if_neg hc] at q; cases q
    | tup es => cases q; exact go es rfl rfl
    | lst es => cases q; exact go es rfl rfl
    | rol es => cases q; exact go es rfl rfl
    | _ => cases q
  | [], _, q => simp [lenF] at q
  | a :: _ :: _, _, q => cases a <;> simp [lenF] at q
/-- len of a dict with flat keys -/
def lenDF : List D → Option Rz
  | [.dK es] => val (.int (es.length : Nat))
  | _ => none
def absF : List D → Option Rz
  | [.int i] => val (.int (if i < 0 then -i else i))
  | _ => none
theorem cs_abs : CallS X (.builtin "abs") absF := by
  refine ⟨_, call_abs, fun F H xs ds z Q e rs q gz => ?_⟩
  match ds, rs, q with
  | [.int i], rs, q =>
    obtain ⟨x, rfl, r⟩ := rs.one
    obtain rfl := r.int
    cases q
    exact ⟨i, rfl, Gives.val gz e (.int _)⟩
def intF : List D → Option Rz
  | [.int i] => val (.int i)
  | [.bl k] => val (.int (if k then 1 else 0))
  | _ => none
theorem cs_int : CallS X (.type "int") intF := by
  refine ⟨_, call_int1, fun F H xs ds z Q e rs q gz => ?_⟩
  match ds, rs, q with
  | [.int i], rs, q =>
    obtain ⟨x, rfl, r⟩ := rs.one
    obtain rfl := r.int
    cases q
    exact .inl ⟨i, rfl, Gives.val gz e (.int _)⟩
  | [.bl i], rs, q =>
    obtain ⟨x, rfl, r⟩ := rs.one
    obtain rfl := r.bl
    cases q
    exact .inr ⟨i, rfl, Gives.val gz e (.int _)⟩
def boolF : List D → Option Rz
  | [.int i] => val (.bl (i != 0))
  | [.bl k] => val (.bl k)
  | _ => none
theorem cs_bool : CallS X (.type "bool") boolF := by
  refine ⟨_, call_bool1, fun F H xs ds z Q e rs q gz => ?_⟩
  match ds, rs, q with
  | [.int i], rs, q =>
    obtain ⟨x, rfl, r⟩ := rs.one
    obtain rfl := r.int
    cases q
    exact .inl ⟨i, rfl, Gives.val gz e (.bl _)⟩
  | [.bl i], rs, q =>
    obtain ⟨x, rfl, r⟩ := rs.one
    obtain rfl := r.bl
    cases q
    exact .inr ⟨i, rfl, Gives.val gz e (.bl _)⟩
/-- the greatest, the least -/
def maxL : List Int → Option Int
  | [] => none
  | x :: xs => some (xs.foldl max x)
def minL : List Int → Option Int
  | [] => none
  | x :: xs => some (xs.foldl min x)
theorem foldl_max : ∀ (xs : List Int) (x : Int), (xs.foldl max x) ∈ x :: xs ∧ ∀ y ∈ x :: xs, y ≤ xs.foldl max x
  | [], x => ⟨List.mem_singleton.mpr rfl, fun y h => by rw [List.mem_singleton.mp h]; exact Int.le_refl _⟩
  | z :: xs, x => by
    obtain ⟨h1, h2⟩ := foldl_max xs (max x z)
    rw [List.foldl_cons]
    refine ⟨?_, fun y hy => ?_⟩
    · rcases List.mem_cons.mp h1 with q | q
      · rw [q]
        rcases (by omega : max x z = x ∨ max x z = z) with w | w <;> rw [w] <;> simp
      · exact List.mem_cons_of_mem _ (List.mem_cons_of_mem _ q)
    · have h3 := h2 _ List.mem_cons_self
      rcases List.mem_cons.mp hy with q | q
      · rw [q]; omega
      · rcases List.mem_cons.mp q with q | q
        · rw [q]; omega
        · exact h2 y (List.mem_cons_of_mem _ q)
theorem foldl_min : ∀ (xs : List Int) (x : Int), (xs.foldl min x) ∈ x :: xs ∧ ∀ y ∈ x :: xs, xs.foldl min x ≤ y
  | [], x => ⟨List.mem_singleton.mpr rfl, fun y h => by rw [List.mem_singleton.mp h]; exact Int.le_refl _⟩
  | z :: xs, x => by
    obtain ⟨h1, h2⟩ := foldl_min xs (min x z)
    rw [List.foldl_cons]
    refine ⟨?_, fun y hy => ?_⟩
    · rcases List.mem_cons.mp h1 with q | q
      · rw [q]
        rcases (by omega : min x z = x ∨ min x z = z) with w | w <;> rw [w] <;> simp
      · exact List.mem_cons_of_mem _ (List.mem_cons_of_mem _ q)
    · have h3 := h2 _ List.mem_cons_self
      rcases List.mem_cons.mp hy with q | q
      · rw [q]; omega
      · rcases List.mem_cons.mp q with q | q
        · rw [q]; omega
        · exact h2 y (List.mem_cons_of_mem _ q)
theorem maxL_eq {ns : List Int} {m k : Int} (h : maxL ns = some m) (h1 : k ∈ ns) (h2 : ∀ y ∈ ns, y ≤ k) : k = m := by
  cases ns with
  | nil => cases h
  | cons x xs =>
    cases h
    obtain ⟨q1, q2⟩ := foldl_max xs x
    exact Int.le_antisymm (q2 k h1) (h2 _ q1)
theorem minL_eq {ns : List Int} {m k : Int} (h : minL ns = some m) (h1 : k ∈ ns) (h2 : ∀ y ∈ ns, k ≤ y) : k = m := by
  cases ns with
  | nil => cases h
  | cons x xs =>
    cases h
    obtain ⟨q1, q2⟩ := foldl_min xs x
    exact Int.le_antisymm (h2 _ q1) (q2 k h1)
/-- the ints of a list that is read -/
def intsOf : D → Option (List Int)
  | .lst ds => intsD ds
  | .rol ds => intsD ds
  | _ => none
def blsOf : D → Option (List Bool)
  | .lst ds => blsD ds
  | .rol ds => blsD ds
  | _ => none
theorem CRep.ints {K : PySem.W.Frag} {F H : Hp} (e : Same F H) {x : V} {d : D} {ns : List Int} (h : CRep K F H x d) (q : intsOf d = some ns) : ∃ a, x = .ref a ∧ SqL K H a (ns.map V.int) := by
  cases d with
  | lst ds => obtain ⟨a, xs, rfl, h1, h2⟩ := h.lst e; rw [intsD_eq q] at h2; rw [h2.ints] at h1; exact ⟨a, rfl, SqL.of h1⟩
  | rol ds => obtain ⟨a, xs, rfl, h1, h2⟩ := h.rol e; rw [intsD_eq q] at h2; rw [h2.ints] at h1; exact ⟨a, rfl, h1⟩
  | _ => cases q
theorem CRep.bls {K : PySem.W.Frag} {F H : Hp} (e : Same F H) {x : V} {d : D} {ns : List Bool} (h : CRep K F H x d) (q : blsOf d = some ns) : ∃ a, x = .ref a ∧ SqL K H a (ns.map V.bl) := by
  cases d with
  | lst ds => obtain ⟨a, xs, rfl, h1, h2⟩ := h.lst e; rw [blsD_eq q] at h2; rw [h2.bls] at h1; exact ⟨a, rfl, SqL.of h1⟩
  | rol ds => obtain ⟨a, xs, rfl, h1, h2⟩ := h.rol e; rw [blsD_eq q] at h2; rw [h2.bls] at h1; exact ⟨a, rfl, h1⟩
  | _ => cases q
def max2F : List D → Option Rz
  | [.int i, .int j] => val (.int (if j > i then j else i))
  | _ => none
def min2F : List D → Option Rz
  | [.int i, .int j] => val (.int (if j < i then j else i))
  | _ => none
theorem cs_max2 (hc : X.calm = true) : CallS X (.builtin "max") max2F := by
  refine ⟨_, call_max2 hc, fun F H xs ds z Q e rs q gz => ?_⟩
  match ds, rs, q with
  | [.int i, .int j], rs, q =>
    obtain ⟨x, y, rfl, r, r'⟩ := rs.two
    obtain rfl := r.int
    obtain rfl := r'.int
    cases q
    exact ⟨i, j, rfl, Gives.val gz e (.int _)⟩
theorem cs_min2 (hc : X.calm = true) : CallS X (.builtin "min") min2F := by
  refine ⟨_, call_min2 hc, fun F H xs ds z Q e rs q gz => ?_⟩
  match ds, rs, q with
  | [.int i, .int j], rs, q =>
    obtain ⟨x, y, rfl, r, r'⟩ := rs.two
    obtain rfl := r.int
    obtain rfl := r'.int
    cases q
    exact ⟨i, j, rfl, Gives.val gz e (.int _)⟩
def maxF : List D → Option Rz
  | [d] => ((intsOf d).bind maxL).bind fun m => val (.int m)
  | _ => none
def minF : List D → Option Rz
  | [d] => ((intsOf d).bind minL).bind fun m => val (.int m)
  | _ => none
theorem cs_max (hc : X.calm = true) : CallS X (.builtin "max") maxF := by
  refine ⟨_, cr_max hc, fun F H xs ds z Q e rs q gz => ?_⟩
  match ds, rs, q with
  | [d], rs, q =>
    obtain ⟨x, rfl, r⟩ := rs.one
    simp only [maxF] at q
    cases q1 : intsOf d with
    | none => rw [q1] at q; cases q
    | some ns =>
      rw [q1] at q
      simp only [Option.bind_some] at q
      cases q2 : maxL ns with
      | none => rw [q2] at q; cases q
      | some m =>
        rw [q2] at q
        cases q
        obtain ⟨a, rfl, hx⟩ := r.ints e q1
        refine ⟨a, ns, rfl, hx, ?_, fun k h1 h2 => ?_⟩
        · cases ns with
          | nil => cases q2
          | cons => simp
        · rw [maxL_eq q2 h1 h2]; exact Gives.val gz e (.int _)
theorem cs_min (hc : X.calm = true) : CallS X (.builtin "min") minF := by
  refine ⟨_, cr_min hc, fun F H xs ds z Q e rs q gz => ?_⟩
  match ds, rs, q with
  | [d], rs, q =>
    obtain ⟨x, rfl, r⟩ := rs.one
    simp only [minF] at q
    cases q1 : intsOf d with
    | none => rw [q1] at q; cases q
    | some ns =>
      rw [q1] at q
      simp only [Option.bind_some] at q
      cases q2 : minL ns with
      | none => rw [q2] at q; cases q
      | some m =>
        rw [q2] at q
        cases q
        obtain ⟨a, rfl, hx⟩ := r.ints e q1
        refine ⟨a, ns, rfl, hx, ?_, fun k h1 h2 => ?_⟩
        · cases ns with
          | nil => cases q2
          | cons => simp
        · rw [minL_eq q2 h1 h2]; exact Gives.val gz e (.int _)
def sumF : List D → Option Rz
  | [d] => (intsOf d).bind fun ns => val (.int ns.sum)
  | _ => none
theorem cs_sum (hc : X.calm = true) : CallS X (.builtin "sum") sumF := by
  refine ⟨_, cr_sum hc, fun F H xs ds z Q e rs q gz => ?_⟩
  match ds, rs, q with
  | [d], rs, q =>
    obtain ⟨x, rfl, r⟩ := rs.one
    simp only [sumF] at q
    cases q1 : intsOf d with
    | none => rw [q1] at q; cases q
    | some ns => rw [q1] at q; cases q; obtain ⟨a, rfl, hx⟩ := r.ints e q1; exact ⟨a, ns, rfl, hx, Gives.val gz e (.int _)⟩
def allF : List D → Option Rz
  | [d] => (blsOf d).bind fun ns => val (.bl (ns.all id))
  | _ => none
def anyF : List D → Option Rz
  | [d] => (blsOf d).bind fun ns => val (.bl (ns.any id))
  | _ => none
theorem cs_all (hc : X.calm = true) : CallS X (.builtin "all") allF := by
  refine ⟨_, cr_all hc, fun F H xs ds z Q e rs q gz => ?_⟩
  match ds, rs, q with
  | [d], rs, q =>
    obtain ⟨x, rfl, r⟩ := rs.one
    simp only [allF] at q
    cases q1 : blsOf d with
    | none => rw [q1] at q; cases q
    | some ns => rw [q1] at q; cases q; obtain ⟨a, rfl, hx⟩ := r.bls e q1; exact ⟨a, ns, rfl, hx, Gives.val gz e (.bl _)⟩
theorem cs_any (hc : X.calm = true) : CallS X (.builtin "any") anyF := by
  refine ⟨_, cr_any hc, fun F H xs ds z Q e rs q gz => ?_⟩
  match ds, rs, q with
  | [d], rs, q =>
    obtain ⟨x, rfl, r⟩ := rs.one
    simp only [anyF] at q
    cases q1 : blsOf d with
    | none => rw [q1] at q; cases q
    | some ns => rw [q1] at q; cases q; obtain ⟨a, rfl, hx⟩ := r.bls e q1; exact ⟨a, ns, rfl, hx, Gives.val gz e (.bl _)⟩
def tupleF : List D → Option Rz
  | [.tup ds] => val (.tup ds)
  | [.lst ds] => val (.tup ds)
  | [.rol ds] => val (.tup ds)
  | _ => none
theorem cs_tuple : CallS X (.type "tuple") tupleF := by
  refine ⟨_, call_tuple_of, fun F H xs ds z Q e rs q gz => ?_⟩
  match ds, rs, q with
  | [.tup ds], rs, q =>
    obtain ⟨x, rfl, r⟩ := rs.one
    cases q
    obtain ⟨a, ys, rfl, h1, h2, h3⟩ := r.tup e
    exact ⟨a, ys, rfl, .inr ⟨h1, Gives.val gz e h3⟩⟩
  | [.lst ds], rs, q =>
    obtain ⟨x, rfl, r⟩ := rs.one
    cases q
    obtain ⟨a, ys, rfl, h1, h2⟩ := r.lst e
    exact ⟨a, ys, rfl, .inl ⟨SqL.of h1, gz.newT e h2⟩⟩
  | [.rol ds], rs, q =>
    obtain ⟨x, rfl, r⟩ := rs.one
    cases q
    obtain ⟨a, ys, rfl, h1, h2⟩ := r.rol e
    exact ⟨a, ys, rfl, .inl ⟨h1, gz.newT e h2⟩⟩
def listF : List D → Option Rz
  | [d] => (items d).bind fun ds => new (.lst ds)
  | _ => none
theorem cs_list : CallS X (.type "list") listF := by
  refine ⟨_, call_list_of, fun F H xs ds z Q e rs q gz => ?_⟩
  match ds, rs, q with
  | [d], rs, q =>
    obtain ⟨x, rfl, r⟩ := rs.one
    simp only [listF] at q
    cases q1 : items d with
    | none => rw [q1] at q; cases q
    | some es =>
      rw [q1] at q
      cases q
      obtain ⟨a, ys, rfl, hx, rr⟩ := r.items e q1
      exact ⟨a, ys, rfl, hx, gz.newL e rr⟩
/-! ### isinstance -/
def tyD : D → Option String
  | .non => some "NoneType"
  | .bl _ => some "bool"
  | .int _ => some "int"
  | .str _ => some "str"
  | .tup _ => some "tuple"
  | .lst _ => some "list"
  | .dK _ => some "dict"
  | .dT _ => some "dict"
  | .set _ _ => some "set"
  | .rol _ => none
  | .oth _ => none
theorem CRep.ty {K : PySem.W.Frag} {F H : Hp} (e : Same F H) {x : V} {d : D} {T : String} (h : CRep K F H x d) (q : tyD d = some T) : TyX K H x (.type T) := by
  cases d with
  | non => cases q; rw [h.non]; exact .base .non
  | bl b => cases q; rw [h.bl]; exact .base (.bl b)
  | int b => cases q; rw [h.int]; exact .base (.int b)
  | str b => cases q; rw [h.str]; exact .base (.str b)
  | tup ds =>
    cases q
    obtain ⟨a, xs, rfl, h1, _⟩ := h.tup e
    rcases h1 with (h1 | ⟨o, h1⟩) | ⟨o, its, n, h1, h2, _⟩
    · exact .base (.tup h1)
    · exact .fTuple h1
    · exact .kTuple h1 h2
  | lst ds => cases q; obtain ⟨a, xs, rfl, h1, _⟩ := h.lst e; exact .base (.lst h1)
  | dK es => cases q; obtain ⟨a, xs, rfl, h1, _⟩ := h.dK e; exact .base (.dK h1)
  | dT es =>
    cases q
    rcases h with h | ⟨a, rfl, _, xs, h1, _⟩
    · cases h with
      | dT h1 _ _ => exact .base (.dT (e _ _ h1))
    · exact .base (.dT h1)
  | set S n =>
    cases q
    rcases h with h | ⟨a, rfl, _, h1⟩
    · cases h with
      | set h1 => exact .set (e _ _ h1)
    · exact .set h1
  | _ => cases q
def isiF : List D → Option Rz
  | [d, .oth (.ty c)] => (tyD d).bind fun T => (kitB T c).bind fun b => val (.bl b)
  | _ => none
theorem cs_isi : CallS X (.builtin "isinstance") isiF := by
  refine ⟨_, call_isi, fun F H xs ds z Q e rs q gz => ?_⟩
  match ds, rs, q with
  | [d, .oth (.ty c)], rs, q =>
    obtain ⟨x, y, rfl, r, r'⟩ := rs.two
    obtain rfl := r'.oth
    simp only [isiF] at q
    cases q1 : tyD d with
    | none => rw [q1] at q; cases q
    | some T =>
      rw [q1] at q
      simp only [Option.bind_some] at q
      cases q2 : kitB T c with
      | none => rw [q2] at q; cases q
      | some b => rw [q2] at q; cases q; exact ⟨x, _, _, _, b, rfl, .ty c, r.ty e q1, kit_ty q2, Gives.val gz e (.bl _)⟩
end
end PL

namespace PL
open PySem L2
/-! ## what changes an object of one's own -/
/-- a step that changes the slot i's object, with one datum -/
def mMut (i : Nat) (f : D → Option (D × D)) : ME := fun env => match owned env[i]? with
  | some d => match f d with
    | some (r, d') => some (.ok (.val r) (setOwn env i d'))
    | none => none
  | none => none
def mHas (i : Nat) (p : D → Bool) (m : ME) : ME := fun env => match owned env[i]? with
  | some d => if p d then m env else none
  | none => none
section
variable {K : PySem.W.Frag} {N : Ent} {W : Wish} {σ : L2.St} {F H H0 : Hp} {env : Env}
theorem run_has {i : Nat} {p : D → Bool} {m : ME} {P : Rv → Hp → Hp → Env → Prop} (s : SR K N F H σ env) (h : Run K N W (mHas i p m) F H env σ P) : ∃ d a, p d = true ∧ owned env[i]? = some d ∧ σ[i]? = some (some (.ref a)) ∧ OwnAt K F H a d ∧ Run K N W m F H env σ P := by
  obtain ⟨r, e, h⟩ := h
  unfold mHas at e
  cases q : owned env[i]? with
  | none => rw [q] at e; cases e
  | some d =>
    rw [q] at e
    simp only at e
    by_cases hp : p d = true
    · rw [if_pos hp] at e
      obtain ⟨a, h1, h2, _⟩ := s.ownAt q
      exact ⟨d, a, hp, rfl, h1, h2, r, e, h⟩
    · rw [if_neg hp] at e; cases e
theorem run_mut {i : Nat} {f : D → Option (D × D)} {Q : VK} {a : Addr} (s : SR K N F H σ env) (ha : σ[i]? = some (some (.ref a))) (h : Run K N W (mMut i f) F H env σ (PE_ K N σ H0 Q)) :
    ∃ d r d', f d = some (r, d') ∧ OwnAt K F H a d ∧ ∀ o' v, OwnAt K F (upd H a o') a d' → Rep K F v r → Q v (upd H a o') := by
  obtain ⟨r, e, h⟩ := h
  unfold mMut at e
  cases q : owned env[i]? with
  | none => rw [q] at e; cases e
  | some d =>
    rw [q] at e
    simp only at e
    cases q2 : f d with
    | none => rw [q2] at e; cases e
    | some y =>
      obtain ⟨rr, d'⟩ := y
      rw [q2] at e
      cases e
      obtain ⟨b, h1, h2, _⟩ := s.ownAt q
      rw [ha] at h1; cases h1
      exact ⟨d, rr, d', q2, h2, fun o' v ow rv => h F _ (s.write q ha ow) v rv trivial⟩
end
def isL : D → Bool
  | .lst _ => true
  | _ => false
theorem OwnAt.isL {K : PySem.W.Frag} {F H : Hp} {a : Addr} {d : D} (h : OwnAt K F H a d) (q : PL.isL d = true) : ∃ ds xs, d = .lst ds ∧ H a = some (.lst xs) ∧ RepL K F xs ds := by
  cases d with
  | lst ds => obtain ⟨_, xs, h1, h2⟩ := h; exact ⟨ds, xs, rfl, h1, h2⟩
  | _ => cases q
def appF (y : D) : D → Option (D × D)
  | .lst ds => if ds.length < sizeLine then some (.non, .lst (ds ++ [y])) else none
  | _ => none
def mAppend (i : Nat) (m : ME) : ME := mHas i isL (bnd (mD m) fun d => mMut i (appF d))
def popF : D → Option (D × D)
  | .lst ds => (ds[ds.length - 1]?).map fun y => (y, .lst ds.dropLast)
  | _ => none
def mPop (i : Nat) : ME := mHas i isL (mMut i popF)
def extF (y : D) : D → Option (D × D)
  | .lst ds => match y with
    | .lst es => if ds.length + es.length ≤ sizeLine then some (.non, .lst (ds ++ es)) else none
    | _ => none
  | _ => none
/-- extend: the added list is read -/
def mExtend (i : Nat) (m : ME) : ME := mHas i isL (bnd m fun rv env => match content rv env with
  | some d => mMut i (extF d) env
  | none => none)
section
variable {X : Cx} {N : Ent} {W : Wish} {e : Expr} {m : ME} {i : Nat} {x : Str} {xpos apos cpos : Pos}
theorem se_append (i : Nat) (hv : PE X (.Name x xpos) (tVar i)) (he : SE X N W e m)
    (hbase : attributeBase (.Name x xpos) "append" X.env (eval (.Name x xpos) X.env) = eval (.Name x xpos) X.env := by rfl)
    (hfew : ((backTo cpos (starEach [e] X.env)).all (fun x => !x.1) && (backToKw cpos (keywordEach [] X.env)).all (fun x => x.1.isSome)
      && decide ([e].length + ([] : List Keyword).length + (if ([] : List Keyword).isEmpty then 0 else 1) < 30)) = true := by rfl)
    (hline : (apos.endLine == cpos.line) = true := by rfl) (hs : starEach [e] X.env = (false, eval e X.env) :: starEach [] X.env := by rfl) (hplain : (backTo cpos (starEach [] X.env)).any (·.1) = false := by rfl) :
    SE X N W (.Call (.Attribute (.Name x xpos) "append" apos) [e] [] cpos) (mAppend i m) := by
  refine PE.weak (pe_bm PySem.F.plainAttrs_list PySem.F.slot_list_append PySem.F.type_list_append mt_append hv (pa_cons he pa_nil hs) hbase hfew hline hs hplain) fun σ H Q ⟨F, env, s, h⟩ => ?_
  obtain ⟨d, a, hp, hd, ha, oa, h1⟩ := run_has s h
  obtain ⟨ds, xs, rfl, h2, h3⟩ := oa.isL hp
  refine ⟨_, ha, .inl ⟨rfl, xs, SqL.of h2⟩, ?_⟩
  refine tmE_d s h1.bnd fun y F1 H1 env1 v v1 rr h4 => ?_
  obtain ⟨d2, r, d3, q1, q2, q3⟩ := run_mut v1.sr ha h4
  cases d2 with
  | lst ds2 =>
    unfold appF at q1
    by_cases hc : ds2.length < sizeLine
    · simp only [if_pos hc] at q1
      cases q1
      obtain ⟨n, ys, q4, q5⟩ := q2
      exact ⟨a, ys, v, rfl, rfl, q4, by rw [q5.length]; exact hc, q3 _ _ ⟨n, _, upd_same, q5.snoc rr⟩ .non⟩
    · simp only [if_neg hc] at q1; cases q1
  | _ => cases q1
theorem se_pop (i : Nat) (hv : PE X (.Name x xpos) (tVar i))
    (hbase : attributeBase (.Name x xpos) "pop" X.env (eval (.Name x xpos) X.env) = eval (.Name x xpos) X.env := by rfl) (hline : (apos.endLine == cpos.line) = true := by rfl) :
    SE X N W (.Call (.Attribute (.Name x xpos) "pop" apos) [] [] cpos) (mPop i) := by
  refine PE.weak (pe_bm0 PySem.F.plainAttrs_list PySem.F.slot_list_pop PySem.F.type_list_pop mt_pop hv hbase hline) fun σ H Q ⟨F, env, s, h⟩ => ?_
  obtain ⟨d, a, hp, hd, ha, oa, h1⟩ := run_has s h
  obtain ⟨ds, xs, rfl, h2, h3⟩ := oa.isL hp
  refine ⟨_, ha, .inl ⟨rfl, xs, SqL.of h2⟩, ?_⟩
  obtain ⟨d2, r, d3, q1, q2, q3⟩ := run_mut s ha h1
  cases d2 with
  | lst ds2 =>
    unfold popF at q1
    cases w : ds2[ds2.length - 1]? with
    | none => simp only [w] at q1; cases q1
    | some y =>
      simp only [w] at q1
      cases q1
      obtain ⟨n, ys, q4, q5⟩ := q2
      obtain ⟨v, w1, w2⟩ := q5.get w
      exact ⟨a, ys, v, rfl, rfl, q4, by rw [q5.length]; exact w1, q3 _ _ ⟨n, _, upd_same, q5.dropLast⟩ w2⟩
  | _ => cases q1
theorem se_extend (i : Nat) (hv : PE X (.Name x xpos) (tVar i)) (he : SE X N W e m)
    (hbase : attributeBase (.Name x xpos) "extend" X.env (eval (.Name x xpos) X.env) = eval (.Name x xpos) X.env := by rfl)
    (hfew : ((backTo cpos (starEach [e] X.env)).all (fun x => !x.1) && (backToKw cpos (keywordEach [] X.env)).all (fun x => x.1.isSome)
      && decide ([e].length + ([] : List Keyword).length + (if ([] : List Keyword).isEmpty then 0 else 1) < 30)) = true := by rfl)
    (hline : (apos.endLine == cpos.line) = true := by rfl) (hs : starEach [e] X.env = (false, eval e X.env) :: starEach [] X.env := by rfl) (hplain : (backTo cpos (starEach [] X.env)).any (·.1) = false := by rfl) :
    SE X N W (.Call (.Attribute (.Name x xpos) "extend" apos) [e] [] cpos) (mExtend i m) := by
  refine PE.weak (pe_bm PySem.F.plainAttrs_list PySem.F.slot_list_extend PySem.F.type_list_extend mt_extend hv (pa_cons he pa_nil hs) hbase hfew hline hs hplain) fun σ H Q ⟨F, env, s, h⟩ => ?_
  obtain ⟨d, a, hp, hd, ha, oa, h1⟩ := run_has s h
  obtain ⟨ds, xs, rfl, h2, h3⟩ := oa.isL hp
  refine ⟨_, ha, .inl ⟨rfl, xs, SqL.of h2⟩, F, env, s, h1.bnd.mono fun rv F1 H1 env1 v1 h4 v rr fr => ?_⟩
  obtain ⟨r, q, h5⟩ := h4
  simp only at q
  cases q0 : content rv env1 with
  | none => rw [q0] at q; cases q
  | some y =>
    rw [q0] at q
    simp only at q
    obtain ⟨d2, r, d3, q1, q2, q3⟩ := run_mut v1.sr ha (⟨r, q, h5⟩ : Run X.K N W (mMut i (extF y)) F1 H1 env1 σ (PE_ X.K N σ H Q))
    cases d2 with
    | lst ds2 =>
      cases y with
      | lst es =>
        unfold extF at q1
        by_cases hc : ds2.length + es.length ≤ sizeLine
        · simp only [if_pos hc] at q1
          cases q1
          obtain ⟨n, ys, q4, q5⟩ := q2
          obtain ⟨b, zs, rfl, q6, q7⟩ := (rr.content v1.sr q0).lst v1.sr.fh
          exact ⟨a, b, ys, zs, rfl, rfl, q4, q6, by rw [q5.length, q7.length]; exact hc, q3 _ _ ⟨n, _, upd_same, q5.append q7⟩ .non⟩
        · simp only [if_neg hc] at q1; cases q1
      | _ => cases q1
    | _ => cases q1
end

/-! ## calls of defs -/
/-- an argument: plain data; a slot's own object; a new object -/
inductive Ar where
  | pl (d : D) | ob (i : Nat) | tp (d : D)
def mArg (fl : Bool) (m : ME) : M Ar := bnd m fun rv env => match fl, rv with
  | true, .bor i => match owned env[i]? with
    | some _ => some (.ok (.ob i) env)
    | none => match settle rv env with
      | some (d, e) => some (.ok (.pl d) e)
      | none => none
  | true, .new d => some (.ok (.tp d) env)
  | _, _ => match settle rv env with
    | some (d, e) => some (.ok (.pl d) e)
    | none => none
def mANil : M (List Ar) := ret []
def mACons (fl : Bool) (m : ME) (t : M (List Ar)) : M (List Ar) := bnd (mArg fl m) fun a => bnd t fun as => ret (a :: as)
/-- Hs: the heap ahead of the whole call -/
def RepAr (K : PySem.W.Frag) (N : Ent) (Hs F H : Hp) (σ : L2.St) (env : Env) : Ar → V → Prop
  | .pl d, v => Rep K F v d
  | .ob i, v => σ[i]? = some (some v)
  | .tp d, v => ∃ a, v = .ref a ∧ OwnAt K F H a d ∧ N.H0 a = none ∧ ¬ Owner σ env a ∧ Hs a = none
inductive RepArs (K : PySem.W.Frag) (N : Ent) (Hs F H : Hp) (σ : L2.St) (env : Env) : List Ar → List V → Prop
  | nil : RepArs K N Hs F H σ env [] []
  | cons {a : Ar} {v : V} {as : List Ar} {vs : List V} : RepAr K N Hs F H σ env a v → RepArs K N Hs F H σ env as vs → RepArs K N Hs F H σ env (a :: as) (v :: vs)
def tmAr (K : PySem.W.Frag) (N : Ent) (W : Wish) (m : M (List Ar)) : TA := fun σ H Q => ∃ F env, SR K N F H σ env ∧ Run K N W m F H env σ (fun as F' H' env' => ∀ vs, RepArs K N H F' H' σ env' as vs → Q vs H')
abbrev SArs (X : Cx) (N : Ent) (W : Wish) (e : List Expr) (m : M (List Ar)) : Prop := PA X e (tmAr X.K N W m)
section
variable {K : PySem.W.Frag} {N : Ent} {W : Wish} {σ : L2.St} {F H : Hp} {env : Env}
theorem tmE_arg {fl : Bool} {m : ME} {P : Ar → Hp → Hp → Env → Prop} {Q : VK} (s : SR K N F H σ env) (h : Run K N W (mArg fl m) F H env σ P) (k : ∀ a F1 H1 env1 v, Ev K N σ F H env F1 H1 env1 → RepAr K N H F1 H1 σ env1 a v → P a F1 H1 env1 → Q v H1) : tmE K N W m σ H Q := by
  refine ⟨F, env, s, ?_⟩
  obtain ⟨r, e, h⟩ := h
  unfold mArg PL.bnd at e
  cases q : m env with
  | none => rw [q] at e; cases e
  | some x =>
    rw [q] at e
    cases x with
    | exc x e' => cases e; exact ⟨_, q, h⟩
    | ok rv e' =>
      refine ⟨_, q, fun F1 H1 v1 v rv' fv => ?_⟩
      have st : ∀ {d e2}, settle rv e' = some (d, e2) → (some (Res.ok (Ar.pl d) e2) = some r) → Q v H1 := fun {d e2} q2 q3 => by
        cases q3
        obtain ⟨F2, v2, rr⟩ := RepV.settle v1 rv' fv q2
        exact k (.pl d) F2 H1 e2 v v2 rr (h F2 H1 v2)
      have go : (match settle rv e' with | some (d, e) => some (Res.ok (Ar.pl d) e) | none => none) = some r → Q v H1 := fun e => by
        cases q2 : settle rv e' with
        | none => rw [q2] at e; cases e
        | some y => obtain ⟨d, e2⟩ := y; rw [q2] at e; exact st q2 e
      cases fl with
      | false => exact go e
      | true =>
        cases rv with
        | val d => exact go e
        | new d =>
          cases e
          obtain ⟨a, e1, o, h0, n⟩ := rv'
          obtain ⟨a', e2, hn⟩ := fv
          rw [e1] at e2
          cases e2
          exact k (.tp d) F1 H1 e' v v1 ⟨a, e1, o, h0, n, hn⟩ (h F1 H1 v1)
        | bor i =>
          simp only at e
          cases q2 : owned e'[i]? with
          | none => rw [q2] at e; exact go e
          | some d =>
            rw [q2] at e
            cases e
            exact k (.ob i) F1 H1 e' v v1 rv'.1 (h F1 H1 v1)
theorem RepAr.ev {Hs F' H' : Hp} {env' : Env} (e : Ev K N σ F H env F' H' env') {a : Ar} {v : V} (h : RepAr K N Hs F H σ env a v) : RepAr K N Hs F' H' σ env' a v := by
  cases a with
  | pl d => exact Rep.mono e.ff h
  | ob i => exact h
  | tp d =>
    obtain ⟨a, e1, o, h0, n, hs⟩ := h
    exact ⟨a, e1, o.keep e.ff (e.k2 a o.there o.1 n) (fun u q => e.k1 a u q n), h0, fun z => n (e.k4 a z), hs⟩
theorem RepArs.start {Hs H' : Hp} (k : ∀ a, H' a = none → Hs a = none) : ∀ {as : List Ar} {vs : List V}, RepArs K N H' F H σ env as vs → RepArs K N Hs F H σ env as vs
  | _, _, .nil => .nil
  | _, _, .cons (a := .pl _) h t => .cons h (t.start k)
  | _, _, .cons (a := .ob _) h t => .cons h (t.start k)
  | _, _, .cons (a := .tp _) h t => .cons (by obtain ⟨a, e1, o, h0, n, hs⟩ := h; exact ⟨a, e1, o, h0, n, k a hs⟩) (t.start k)
end
section
variable {X : Cx} {N : Ent} {W : Wish} {e : Expr} {es : List Expr} {m : ME} {t : M (List Ar)}
theorem sar_nil : SArs X N W [] mANil := PA.weak pa_nil fun σ H Q ⟨F, env, s, h⟩ => (Run.ret s h) [] .nil
theorem sar_cons (fl : Bool) (he : SE X N W e m) (hr : SArs X N W es t) (hs : starEach (e :: es) X.env = (false, eval e X.env) :: starEach es X.env := by rfl) : SArs X N W (e :: es) (mACons fl m t) := PA.weak (pa_cons he hr hs) fun σ H Q ⟨F, env, s, h⟩ =>
  tmE_arg s h.bnd fun a F1 H1 env1 v v1 rr h1 => ⟨F1, env1, v1.sr, h1.bnd.mono fun as F2 H2 env2 v2 h2 vs rs => Run.ret v2.sr h2 _ (.cons (rr.ev v2) (rs.start fun a q => by
    cases w : H a with
    | none => rfl
    | some o => exact absurd q (v1.k3 a (by rw [w]; exact fun z => nomatch z))))⟩
end
/-- the arguments of a call, by the state ahead of it -/
def slsOf : List Ar → Env → Option (List Sl)
  | [], _ => some []
  | .pl d :: as, env => (slsOf as env).map (.fz d :: ·)
  | .tp d :: as, env => (slsOf as env).map (.io d :: ·)
  | .ob i :: as, env => match owned env[i]? with
    | some d => (slsOf as env).map (.io d :: ·)
    | none => none
def obs : List Ar → List Nat
  | [] => []
  | .pl _ :: as => obs as
  | .tp _ :: as => obs as
  | .ob i :: as => i :: obs as
def tps : List Ar → Nat
  | [] => 0
  | .tp _ :: as => tps as + 1
  | _ :: as => tps as
/-- the state behind it -/
def backTo' : List Ar → List Sl → Env → Option Env
  | [], _, env => some env
  | .pl _ :: as, _ :: ps, env => backTo' as ps env
  | .tp _ :: as, _ :: ps, env => backTo' as ps env
  | .ob i :: as, .io d :: ps, env => (backTo' as ps env).map fun e => setOwn e i d
  | _, _, _ => none
/-- of a result: whether it is new -/
abbrev Sem' := List Sl → Option (Res Rz)
def mCall (sem : Sem') (t : M (List Ar)) : ME := bnd t fun as env => if (obs as).Nodup ∧ tps as ≤ 1 then
  match (slsOf as env).bind sem with
  | some (.ok z ps) => (backTo' as ps env).map fun e => .ok z.rv e
  | some (.exc x ps) => (backTo' as ps env).map fun e => .exc x e
  | none => none else none
/-- the arguments of a def, as they are handed -/
structure ArgsR (K : PySem.W.Frag) (F H : Hp) (args : List Sl) (vs : List V) : Prop where
  fh : Same F H
  len : args.length = vs.length
  fz : ∀ (i : Nat) (d : D), args[i]? = some (.fz d) → ∃ v, vs[i]? = some v ∧ Rep K F v d
  io : ∀ (i : Nat) (d : D), args[i]? = some (.io d) → ∃ a, vs[i]? = some (.ref a) ∧ OwnAt K F H a d
  no : ∀ (i : Nat) (x : Sl), args[i]? = some x → (∃ d, x = .fz d) ∨ ∃ d, x = .io d
  inj : ∀ (i j : Nat) (a : Addr) (d e : D), args[i]? = some (.io d) → args[j]? = some (.io e) → vs[i]? = some (.ref a) → vs[j]? = some (.ref a) → i = j
/-- behind the call -/
structure CallP (K : PySem.W.Frag) (F H : Hp) (args : List Sl) (vs : List V) (F' H' : Hp) (args' : List Sl) : Prop where
  ff : Same F F'
  fh : Same F' H'
  io : ∀ (i : Nat) (d : D), args[i]? = some (.io d) → ∃ a d', vs[i]? = some (.ref a) ∧ args'[i]? = some (.io d') ∧ OwnAt K F' H' a d'
  k1 : ∀ a o, H a = some o → (∀ (i : Nat) (d : D), args[i]? = some (.io d) → vs[i]? ≠ some (.ref a)) → H' a = some o
  k2 : ∀ a, H a ≠ none → F a = none → F' a = none
  k3 : ∀ a, H a ≠ none → H' a ≠ none
/-- how an exception that leaves is told -/
abbrev XRel := Ex → Hp → Hp → Value → Option Addr → Prop
/-- a def's result: a new object, or plain data -/
def ResV (K : PySem.W.Frag) (H F' H' : Hp) (z : Rz) (v : V) : Prop := if z.1 then ∃ a, v = .ref a ∧ OwnAt K F' H' a z.2 ∧ H a = none else Rep K F' v z.2
def spM (K : PySem.W.Frag) (R : XRel) (sem : Sem') : Sp := fun vs H Q E => ∃ F args, ArgsR K F H args vs ∧ ∃ r, sem args = some r ∧ match r with
  | .ok z args' => ∀ F' H' v, CallP K F H args vs F' H' args' → ResV K H F' H' z v → Q v H'
  | .exc x args' => ∀ F' H' c dx, CallP K F H args vs F' H' args' → R x F' H' c dx → E c dx H'
/-- several own objects have changed at once -/
theorem SR.many {K : PySem.W.Frag} {N : Ent} {σ : L2.St} {Fs Hs F H F' H' : Hp} {envs env env' : Env} (s0 : SR K N Fs Hs σ envs) (v0 : Ev K N σ Fs Hs envs F H env) (hl : env'.length = env.length)
    (ks : ∀ j : Nat, env'[j]? = env[j]? ∨ ∃ d d', (env[j]? = some (.ow d) ∧ env'[j]? = some (.ow d')) ∨ (env[j]? = some (.io d) ∧ env'[j]? = some (.io d')))
    (own : ∀ (j : Nat) (d' : D) (a : Addr), owned env'[j]? = some d' → OwnSl σ env j a → OwnAt K F' H' a d') (ff : Same F F') (fh : Same F' H')
    (k1 : ∀ a o, H a = some o → ¬ Owner σ env a → Hs a ≠ none → H' a = some o) (k2 : ∀ a, H a ≠ none → F a = none → F' a = none) (k3 : ∀ a, H a ≠ none → H' a ≠ none) : Ev K N σ Fs Hs envs F' H' env' := by
  have s := v0.sr
  have ois : ∀ j : Nat, (owned env'[j]?).isSome = (owned env[j]?).isSome := fun j => by
    rcases ks j with q | ⟨d, d', ⟨q, q'⟩ | ⟨q, q'⟩⟩
    · rw [q]
    · rw [q, q']; rfl
    · rw [q, q']; rfl
  have back : ∀ j b, OwnSl σ env' j b → OwnSl σ env j b := fun j b q => ⟨by rw [← ois]; exact q.1, q.2⟩
  refine ⟨⟨fh, by rw [hl]; exact s.len, fun j e q => ?_, fun j e q => ?_, fun j e q => ?_, fun p hp => ?_, fun j k b q1 q2 => s.inj j k b (back j b q1) (back k b q2), s.st0.trans ff, fun b x q n => ?_, fun b q f => k2 b (s.st3 b q) (s.st2 b q f), fun b q => k3 b (s.st3 b q)⟩, v0.ff.trans ff, fun b x q n => k1 b x (v0.k1 b x q n) (fun z => n (v0.k4 b z)) (by rw [q]; exact fun z => nomatch z), fun b q f n => k2 b (v0.k3 b q) (v0.k2 b q f n), fun b q => k3 b (v0.k3 b q), fun b ⟨j, q⟩ => v0.k4 b ⟨j, back j b q⟩, fun j e q => ?_, fun j e q => ?_⟩
  · rcases ks j with w | ⟨d, d', ⟨w, w'⟩ | ⟨w, w'⟩⟩
    · rw [w] at q; obtain ⟨v, q1, q2⟩ := s.fz j e q; exact ⟨v, q1, q2.mono ff⟩
    · rw [w'] at q; cases q
    · rw [w'] at q; cases q
  · have q0 : owned env'[j]? = some e := by rw [q]; rfl
    rcases ks j with w | ⟨d, d', ⟨w, w'⟩ | ⟨w, w'⟩⟩
    · rw [w] at q; obtain ⟨b, q1, q2, q3⟩ := s.ow j e q; exact ⟨b, q1, own j e b q0 ⟨by rw [q]; rfl, q1⟩, q3⟩
    · rw [w'] at q; cases q; obtain ⟨b, q1, q2, q3⟩ := s.ow j d w; exact ⟨b, q1, own j e b q0 ⟨by rw [w]; rfl, q1⟩, q3⟩
    · rw [w'] at q; cases q
  · have q0 : owned env'[j]? = some e := by rw [q]; rfl
    rcases ks j with w | ⟨d, d', ⟨w, w'⟩ | ⟨w, w'⟩⟩
    · rw [w] at q; obtain ⟨b, q1, q2, q3⟩ := s.io j e q; exact ⟨b, q1, own j e b q0 ⟨by rw [q]; rfl, q1⟩, q3⟩
    · rw [w'] at q; cases q
    · rw [w'] at q; cases q; obtain ⟨b, q1, q2, q3⟩ := s.io j d w; exact ⟨b, q1, own j e b q0 ⟨by rw [w]; rfl, q1⟩, q3⟩
  · obtain ⟨e, q1, q2⟩ := s.iok p hp
    rcases ks p.1 with w | ⟨d, d', ⟨w, w'⟩ | ⟨w, w'⟩⟩
    · exact ⟨e, by rw [w]; exact q1, q2⟩
    · rw [w] at q1; cases q1
    · exact ⟨d', w', q2⟩
  · refine k1 b x (s.st1 b x q n) (fun ⟨j, z⟩ => ?_) (s0.st3 b (by rw [q]; exact fun z => nomatch z))
    obtain ⟨e, q1, q2⟩ := Option.isSome_iff_exists.mp z.1 |>.imp fun e h => (⟨h, trivial⟩ : owned env[j]? = some e ∧ True)
    cases w : env[j]? with
    | none => rw [w] at q1; cases q1
    | some y =>
      rw [w] at q1
      cases y with
      | no => cases q1
      | fz _ => cases q1
      | ow d => obtain ⟨b', h1, _, h3⟩ := s.ow j d w; rw [z.2] at h1; cases h1; rw [h3] at q; cases q
      | io d => obtain ⟨b', h1, _, h3⟩ := s.io j d w; rw [z.2] at h1; cases h1; exact n _ h3 rfl
  · have q := v0.k5 j e q
    rcases ks j with w | ⟨d, d', ⟨w, w'⟩ | ⟨w, w'⟩⟩
    · rw [w]; exact q
    · rw [w] at q; cases q
    · rw [w] at q; cases q
  · obtain ⟨e', q | q⟩ := v0.k6 j e q
    · rcases ks j with w | ⟨d, d', ⟨w, w'⟩ | ⟨w, w'⟩⟩
      · exact ⟨e', .inl (by rw [w]; exact q)⟩
      · exact ⟨d', .inl (by rw [w']; rfl)⟩
      · exact ⟨d', .inl (by rw [w']; rfl)⟩
    · rcases ks j with w | ⟨d, d', ⟨w, w'⟩ | ⟨w, w'⟩⟩
      · exact ⟨e', .inr (by rw [w]; exact q)⟩
      · rw [w] at q; cases q
      · rw [w] at q; cases q
end PL

namespace PL
open PySem L2
/-! ## the call -/
theorem slsOf_len : ∀ {as : List Ar} {env : Env} {sls : List Sl}, slsOf as env = some sls → sls.length = as.length
  | [], _, _, h => by cases h; rfl
  | .pl d :: as, env, sls, h => by
    unfold slsOf at h
    cases q : slsOf as env with
    | none => rw [q] at h; cases h
    | some t => rw [q] at h; cases h; simp [slsOf_len q]
  | .tp d :: as, env, sls, h => by
    unfold slsOf at h
    cases q : slsOf as env with
    | none => rw [q] at h; cases h
    | some t => rw [q] at h; cases h; simp [slsOf_len q]
  | .ob i :: as, env, sls, h => by
    unfold slsOf at h
    cases w : owned env[i]? with
    | none => rw [w] at h; cases h
    | some d =>
      rw [w] at h
      simp only at h
      cases q : slsOf as env with
      | none => rw [q] at h; cases h
      | some t => rw [q] at h; cases h; simp [slsOf_len q]
theorem slsOf_get : ∀ {as : List Ar} {env : Env} {sls : List Sl} {j : Nat} {x : Sl}, slsOf as env = some sls → sls[j]? = some x →
    (∃ d, as[j]? = some (.pl d) ∧ x = .fz d) ∨ (∃ d, as[j]? = some (.tp d) ∧ x = .io d) ∨ ∃ i d, as[j]? = some (.ob i) ∧ owned env[i]? = some d ∧ x = .io d
  | [], _, _, _, _, h, e => by cases h; simp at e
  | .pl d :: as, env, sls, j, x, h, e => by
    unfold slsOf at h
    cases q : slsOf as env with
    | none => rw [q] at h; cases h
    | some t =>
      rw [q] at h; cases h
      cases j with
      | zero => simp at e; exact .inl ⟨d, rfl, e.symm⟩
      | succ j => simpa using slsOf_get q (by simpa using e)
  | .tp d :: as, env, sls, j, x, h, e => by
    unfold slsOf at h
    cases q : slsOf as env with
    | none => rw [q] at h; cases h
    | some t =>
      rw [q] at h; cases h
      cases j with
      | zero => simp at e; exact .inr (.inl ⟨d, rfl, e.symm⟩)
      | succ j => simpa using slsOf_get q (by simpa using e)
  | .ob i :: as, env, sls, j, x, h, e => by
    unfold slsOf at h
    cases w : owned env[i]? with
    | none => rw [w] at h; cases h
    | some d =>
      rw [w] at h
      simp only at h
      cases q : slsOf as env with
      | none => rw [q] at h; cases h
      | some t =>
        rw [q] at h; cases h
        cases j with
        | zero => simp at e; exact .inr (.inr ⟨i, d, rfl, w, e.symm⟩)
        | succ j => simpa using slsOf_get q (by simpa using e)
theorem obs_mem : ∀ {as : List Ar} {j i : Nat}, as[j]? = some (.ob i) → i ∈ obs as
  | [], _, _, e => by simp at e
  | .pl d :: as, j, i, e => by
    cases j with
    | zero => simp at e
    | succ j => exact obs_mem (as := as) (by simpa using e)
  | .tp d :: as, j, i, e => by
    cases j with
    | zero => simp at e
    | succ j => exact obs_mem (as := as) (by simpa using e)
  | .ob k :: as, j, i, e => by
    cases j with
    | zero => simp at e; rw [e]; exact List.mem_cons_self
    | succ j => exact List.mem_cons_of_mem _ (obs_mem (as := as) (by simpa using e))
theorem mem_obs : ∀ {as : List Ar} {i : Nat}, i ∈ obs as → ∃ j : Nat, as[j]? = some (.ob i)
  | [], _, e => by cases e
  | .pl d :: as, i, e => by obtain ⟨j, h⟩ := mem_obs (as := as) e; exact ⟨j + 1, by simpa using h⟩
  | .tp d :: as, i, e => by obtain ⟨j, h⟩ := mem_obs (as := as) e; exact ⟨j + 1, by simpa using h⟩
  | .ob k :: as, i, e => by
    rcases List.mem_cons.mp e with q | q
    · exact ⟨0, by rw [q]; rfl⟩
    · obtain ⟨j, h⟩ := mem_obs (as := as) q; exact ⟨j + 1, by simpa using h⟩
theorem obs_inj : ∀ {as : List Ar} {j k i : Nat}, (obs as).Nodup → as[j]? = some (.ob i) → as[k]? = some (.ob i) → j = k
  | [], _, _, _, _, e, _ => by simp at e
  | .pl d :: as, j, k, i, n, e, e' => by
    cases j with
    | zero => simp at e
    | succ j =>
      cases k with
      | zero => simp at e'
      | succ k => exact congrArg Nat.succ (obs_inj (as := as) n (by simpa using e) (by simpa using e'))
  | .tp d :: as, j, k, i, n, e, e' => by
    cases j with
    | zero => simp at e
    | succ j =>
      cases k with
      | zero => simp at e'
      | succ k => exact congrArg Nat.succ (obs_inj (as := as) n (by simpa using e) (by simpa using e'))
  | .ob l :: as, j, k, i, n, e, e' => by
    have n' := List.nodup_cons.mp n
    cases j with
    | zero =>
      simp at e
      cases k with
      | zero => rfl
      | succ k => exact absurd (e ▸ obs_mem (as := as) (by simpa using e')) n'.1
    | succ j =>
      cases k with
      | zero => simp at e'; exact absurd (e' ▸ obs_mem (as := as) (by simpa using e)) n'.1
      | succ k => exact congrArg Nat.succ (obs_inj (as := as) n'.2 (by simpa using e) (by simpa using e'))
theorem tps_pos : ∀ {as : List Ar} {j : Nat} {d : D}, as[j]? = some (.tp d) → 0 < tps as
  | [], _, _, e => by simp at e
  | .pl _ :: as, j, d, e => by
    cases j with
    | zero => simp at e
    | succ j => exact tps_pos (as := as) (by simpa using e)
  | .ob _ :: as, j, d, e => by
    cases j with
    | zero => simp at e
    | succ j => exact tps_pos (as := as) (by simpa using e)
  | .tp _ :: as, j, d, e => Nat.succ_pos _
theorem tps_inj : ∀ {as : List Ar} {j k : Nat} {d e : D}, tps as ≤ 1 → as[j]? = some (.tp d) → as[k]? = some (.tp e) → j = k
  | [], _, _, _, _, _, e, _ => by simp at e
  | .pl _ :: as, j, k, d, e, n, h, h' => by
    cases j with
    | zero => simp at h
    | succ j =>
      cases k with
      | zero => simp at h'
      | succ k => exact congrArg Nat.succ (tps_inj (as := as) n (by simpa using h) (by simpa using h'))
  | .ob _ :: as, j, k, d, e, n, h, h' => by
    cases j with
    | zero => simp at h
    | succ j =>
      cases k with
      | zero => simp at h'
      | succ k => exact congrArg Nat.succ (tps_inj (as := as) n (by simpa using h) (by simpa using h'))
  | .tp _ :: as, j, k, d, e, n, h, h' => by
    have n' : tps as + 1 ≤ 1 := n
    cases j with
    | zero =>
      cases k with
      | zero => rfl
      | succ k => have := tps_pos (as := as) (j := k) (by simpa using h'); omega
    | succ j => have := tps_pos (as := as) (j := j) (by simpa using h); omega
theorem backTo_spec : ∀ {as : List Ar} {ps : List Sl} {env env' : Env}, backTo' as ps env = some env' → (obs as).Nodup →
    env'.length = env.length ∧ (∀ j : Nat, j ∉ obs as → env'[j]? = env[j]?) ∧ (∀ j i : Nat, as[j]? = some (.ob i) → ∃ d, ps[j]? = some (.io d) ∧ ∀ e, owned env[i]? = some e → owned env'[i]? = some d ∧ ((env[i]? = some (.ow e) ∧ env'[i]? = some (.ow d)) ∨ (env[i]? = some (.io e) ∧ env'[i]? = some (.io d))))
  | [], ps, env, env', h, _ => by cases h; exact ⟨rfl, fun _ _ => rfl, fun j i e => by simp at e⟩
  | .pl d :: as, [], env, env', h, _ => by cases h
  | .pl d :: as, p :: ps, env, env', h, n => by
    obtain ⟨h1, h2, h3⟩ := backTo_spec (as := as) (ps := ps) (env := env) h n
    refine ⟨h1, h2, fun j i e => ?_⟩
    cases j with
    | zero => simp at e
    | succ j => simpa using h3 j i (by simpa using e)
  | .tp d :: as, [], env, env', h, _ => by cases h
  | .tp d :: as, p :: ps, env, env', h, n => by
    obtain ⟨h1, h2, h3⟩ := backTo_spec (as := as) (ps := ps) (env := env) h n
    refine ⟨h1, h2, fun j i e => ?_⟩
    cases j with
    | zero => simp at e
    | succ j => simpa using h3 j i (by simpa using e)
  | .ob k :: as, [], env, env', h, _ => by cases h
  | .ob k :: as, .no :: ps, env, env', h, _ => by cases h
  | .ob k :: as, .fz _ :: ps, env, env', h, _ => by cases h
  | .ob k :: as, .ow _ :: ps, env, env', h, _ => by cases h
  | .ob k :: as, .io d :: ps, env, env', h, n => by
    have n' := List.nodup_cons.mp n
    unfold backTo' at h
    cases q : backTo' as ps env with
    | none => rw [q] at h; cases h
    | some e1 =>
      rw [q] at h
      cases h
      obtain ⟨h1, h2, h3⟩ := backTo_spec (as := as) (ps := ps) (env := env) q n'.2
      refine ⟨by rw [setOwn_length]; exact h1, fun j hj => ?_, fun j i e => ?_⟩
      · have hj' : j ≠ k ∧ j ∉ obs as := by simpa [obs] using hj
        rw [setOwn_ne hj'.1]; exact h2 j hj'.2
      · cases j with
        | zero =>
          simp at e
          subst e
          refine ⟨d, rfl, fun e he => ?_⟩
          have q0 : owned e1[k]? = some e := by rw [h2 k n'.1]; exact he
          obtain ⟨w1, w2⟩ := setOwn_self (d := d) q0
          refine ⟨w1, ?_⟩
          rw [h2 k n'.1] at w2
          exact w2
        | succ j =>
          obtain ⟨d', w1, w2⟩ := h3 j i (by simpa using e)
          refine ⟨d', by simpa using w1, fun e' he => ?_⟩
          have hne : i ≠ k := fun z => n'.1 (z ▸ obs_mem (as := as) (by simpa using e))
          rw [setOwn_ne hne]
          exact w2 e' he
theorem RepArs.get {K : PySem.W.Frag} {N : Ent} {Hs F H : Hp} {σ : L2.St} {env : Env} : ∀ {as : List Ar} {vs : List V} {j : Nat} {a : Ar}, RepArs K N Hs F H σ env as vs → as[j]? = some a → ∃ v, vs[j]? = some v ∧ RepAr K N Hs F H σ env a v
  | _, _, _, _, .nil, e => by simp at e
  | _, _, 0, _, .cons h _, e => by simp at e; subst e; exact ⟨_, rfl, h⟩
  | _, _, j + 1, a, .cons _ t, e => by
    obtain ⟨v, h1, h2⟩ := RepArs.get (j := j) (a := a) t (by simpa using e)
    exact ⟨v, by simpa using h1, h2⟩
theorem RepArs.length {K : PySem.W.Frag} {N : Ent} {Hs F H : Hp} {σ : L2.St} {env : Env} : ∀ {as : List Ar} {vs : List V}, RepArs K N Hs F H σ env as vs → as.length = vs.length
  | _, _, .nil => rfl
  | _, _, .cons _ t => by rw [List.length_cons, List.length_cons, t.length]
section
variable {K : PySem.W.Frag} {N : Ent} {W : Wish} {σ : L2.St} {Fs Hs F H : Hp} {envs env : Env}
theorem argsR_of (s : SR K N F H σ env) {as : List Ar} {vs : List V} {sls : List Sl} (n : (obs as).Nodup) (n1 : tps as ≤ 1) (h : slsOf as env = some sls) (r : RepArs K N Hs F H σ env as vs) : ArgsR K F H sls vs where
  fh := s.fh
  len := by rw [slsOf_len h, r.length]
  fz := fun i d e => by
    rcases slsOf_get h e with ⟨d', q, q'⟩ | ⟨d', q, q'⟩ | ⟨k, d', q, _, q'⟩
    · cases q'; exact r.get q
    · cases q'
    · cases q'
  io := fun i d e => by
    rcases slsOf_get h e with ⟨d', q, q'⟩ | ⟨d', q, q'⟩ | ⟨k, d', q, q1, q'⟩
    · cases q'
    · cases q'
      obtain ⟨v, w1, a, w2, w3, _⟩ := r.get q
      exact ⟨a, by rw [w1, w2], w3⟩
    · cases q'
      obtain ⟨v, w1, w2⟩ := r.get q
      obtain ⟨a, z1, z2, _⟩ := s.ownAt q1
      rw [show σ[k]? = some (some v) from w2] at z1
      cases z1
      exact ⟨a, w1, z2⟩
  no := fun i x e => by
    rcases slsOf_get h e with ⟨d', q, q'⟩ | ⟨d', q, q'⟩ | ⟨k, d', q, q1, q'⟩
    · exact .inl ⟨_, q'⟩
    · exact .inr ⟨_, q'⟩
    · exact .inr ⟨_, q'⟩
  inj := fun i j a d e h1 h2 h3 h4 => by
    rcases slsOf_get h h1 with ⟨d', q, q'⟩ | ⟨d', q, q'⟩ | ⟨k, d', q, q1, q'⟩
    · cases q'
    · rcases slsOf_get h h2 with ⟨e', p, p'⟩ | ⟨e', p, p'⟩ | ⟨l, e', p, p1, p'⟩
      · cases p'
      · exact tps_inj n1 q p
      · obtain ⟨v, w1, b, w2, w3, w4, w5, _⟩ := r.get q
        obtain ⟨v', w1', w2'⟩ := r.get p
        rw [h3] at w1; cases w1; cases w2
        rw [h4] at w1'; cases w1'
        exact absurd ⟨l, by rw [p1]; rfl, w2'⟩ w5
    · rcases slsOf_get h h2 with ⟨e', p, p'⟩ | ⟨e', p, p'⟩ | ⟨l, e', p, p1, p'⟩
      · cases p'
      · obtain ⟨v, w1, b, w2, w3, w4, w5, _⟩ := r.get p
        obtain ⟨v', w1', w2'⟩ := r.get q
        rw [h4] at w1; cases w1; cases w2
        rw [h3] at w1'; cases w1'
        exact absurd ⟨k, by rw [q1]; rfl, w2'⟩ w5
      · obtain ⟨v, w1, w2⟩ := r.get q
        obtain ⟨v', w1', w2'⟩ := r.get p
        rw [h3] at w1; cases w1
        rw [h4] at w1'; cases w1'
        have e0 : k = l := s.inj k l a ⟨by rw [q1]; rfl, w2⟩ ⟨by rw [p1]; rfl, w2'⟩
        subst e0
        exact obs_inj n q p
theorem ev_call (s0 : SR K N Fs Hs σ envs) (v0 : Ev K N σ Fs Hs envs F H env) {as : List Ar} {vs : List V} {sls ps : List Sl} {env' : Env} {F' H' : Hp} (n : (obs as).Nodup) (h : slsOf as env = some sls) (r : RepArs K N Hs F H σ env as vs) (c : CallP K F H sls vs F' H' ps) (b : backTo' as ps env = some env') : Ev K N σ Fs Hs envs F' H' env' := by
  have s := v0.sr
  obtain ⟨b1, b2, b3⟩ := backTo_spec b n
  have ob : ∀ j i : Nat, as[j]? = some (.ob i) → ∃ d a, owned env[i]? = some d ∧ sls[j]? = some (.io d) ∧ σ[i]? = some (some (.ref a)) ∧ vs[j]? = some (.ref a) := fun j i q => by
    have hj : j < sls.length := by rw [slsOf_len h]; exact (List.getElem?_eq_some_iff.mp q).1
    rcases slsOf_get h (List.getElem?_eq_getElem hj) with ⟨d', p, _⟩ | ⟨d', p, _⟩ | ⟨k, d', p, p1, p2⟩
    · rw [q] at p; cases p
    · rw [q] at p; cases p
    · rw [q] at p; cases p
      obtain ⟨v, w1, w2⟩ := r.get q
      obtain ⟨a, z1, z2, _⟩ := s.ownAt p1
      have w2 : σ[i]? = some (some v) := w2
      rw [w2] at z1; cases z1
      exact ⟨d', a, p1, by rw [List.getElem?_eq_getElem hj, p2], w2, w1⟩
  refine SR.many s0 v0 b1 (fun j => ?_) (fun j d' a q1 q2 => ?_) c.ff c.fh (fun a o q nO hs => ?_) c.k2 c.k3
  · by_cases hj : j ∈ obs as
    · obtain ⟨k, hk⟩ := mem_obs hj
      obtain ⟨d, a, o1, o2, o3, o4⟩ := ob k j hk
      obtain ⟨d', w1, w2⟩ := b3 k j hk
      exact .inr ⟨d, d', (w2 d o1).2⟩
    · exact .inl (b2 j hj)
  · by_cases hj : j ∈ obs as
    · obtain ⟨k, hk⟩ := mem_obs hj
      obtain ⟨d, a', o1, o2, o3, o4⟩ := ob k j hk
      obtain ⟨d2, w1, w2⟩ := b3 k j hk
      obtain ⟨z1, _⟩ := w2 d o1
      rw [q1] at z1; cases z1
      obtain ⟨a2, d3, y1, y2, y3⟩ := c.io k d o2
      rw [w1] at y2; cases y2
      rw [o4] at y1; cases y1
      have z := q2.2
      rw [o3] at z; cases z
      exact y3
    · rw [b2 j hj] at q1
      obtain ⟨a', z1, z2, _⟩ := s.ownAt q1
      rw [q2.2] at z1; cases z1
      refine z2.keep c.ff (c.k2 a z2.there z2.1) fun o w => c.k1 a o w fun i d w1 w2 => ?_
      rcases slsOf_get h w1 with ⟨d', p, p'⟩ | ⟨d', p, p'⟩ | ⟨k, d', p, p1, p2⟩
      · cases p'
      · obtain ⟨v, y1, b', y2, y3, y4, y5, _⟩ := r.get p
        rw [w2] at y1; cases y1; cases y2
        exact y5 ⟨j, q2⟩
      · obtain ⟨v, y1, y2⟩ := r.get p
        rw [w2] at y1; cases y1
        have e0 : k = j := s.inj k j a ⟨by rw [p1]; rfl, y2⟩ q2
        exact hj (e0 ▸ obs_mem p)
  · refine c.k1 a o q fun i d w1 w2 => ?_
    rcases slsOf_get h w1 with ⟨d', p, p'⟩ | ⟨d', p, p'⟩ | ⟨k, d', p, p1, p2⟩
    · cases p'
    · obtain ⟨v, y1, b', y2, y3, y4, y5, y6⟩ := r.get p
      rw [w2] at y1; cases y1; cases y2
      exact hs y6
    · obtain ⟨v, y1, y2⟩ := r.get p
      rw [w2] at y1; cases y1
      exact nO ⟨k, by rw [p1]; rfl, y2⟩
end
section
variable {X : Cx} {CX : CXT} {k : Nat} {f : Addr} {fd : FuncData} {ps : List Str} {E : XK} {x : Str} {p pos : Pos} {e : Expr} {es : List Expr} {t : M (List Ar)} {N : Ent} {W : Wish} {R : XRel} {sem : Sem'}
/-- a call of a def -/
theorem tmE_call {K : PySem.W.Frag} {σ : L2.St} {H : Hp} {Q : VK} {E : XK} (hE : ∀ x F' H' env' c dx, SR K N F' H' σ env' → W x env' σ F' H' → R x F' H' c dx → E c dx H') (h : tmE K N W (mCall sem t) σ H Q) : tCall (spM K R sem) [] E (tmAr K N W t) σ H Q := by
  obtain ⟨F, env, s, r0, q0, h⟩ := h
  refine ⟨F, env, s, ?_⟩
  unfold mCall PL.bnd at q0
  cases w0 : t env with
  | none => rw [w0] at q0; cases q0
  | some y =>
    rw [w0] at q0
    cases y with
    | exc x e' => cases q0; exact ⟨_, w0, h⟩
    | ok as env1 =>
      refine ⟨_, w0, fun F1 H1 v1 vs rs => ?_⟩
      show spM K R sem (vs ++ []) H1 Q E
      rw [List.append_nil]
      simp only at q0
      by_cases hn : (obs as).Nodup ∧ tps as ≤ 1
      · rw [if_pos hn] at q0
        cases q1 : slsOf as env1 with
        | none => rw [q1] at q0; cases q0
        | some sls =>
          rw [q1] at q0
          simp only [Option.bind_some] at q0
          refine ⟨F1, sls, argsR_of v1.sr hn.1 hn.2 q1 rs, ?_⟩
          cases q2 : sem sls with
          | none => rw [q2] at q0; cases q0
          | some z =>
            rw [q2] at q0
            refine ⟨z, rfl, ?_⟩
            cases z with
            | ok d qs =>
              simp only at q0 ⊢
              cases q3 : backTo' as qs env1 with
              | none => rw [q3] at q0; cases q0
              | some env2 =>
                rw [q3] at q0
                cases q0
                intro F2 H2 v c rr
                have v2 := ev_call s v1 hn.1 q1 rs c q3
                obtain ⟨b, d⟩ := d
                cases b with
                | false => exact h F2 H2 v2 v rr trivial
                | true =>
                  obtain ⟨a, e1, o, ha⟩ := rr
                  have hs : H a = none := by
                    cases w : H a with
                    | none => rfl
                    | some o => exact absurd ha (v1.k3 a (by rw [w]; exact fun z => nomatch z))
                  exact h F2 H2 v2 v ⟨a, e1, o, s.fresh0 hs, fun z => (s.notOwner hs) (v2.k4 a z)⟩ ⟨a, e1, hs⟩
            | exc x qs =>
              simp only at q0 ⊢
              cases q3 : backTo' as qs env1 with
              | none => rw [q3] at q0; cases q0
              | some env2 =>
                rw [q3] at q0
                cases q0
                exact fun F2 H2 cl dx c rr => hE x F2 H2 env2 cl dx (ev_call s v1 hn.1 q1 rs c q3).sr (h F2 H2 (ev_call s v1 hn.1 q1 rs c q3)) rr
      · rw [if_neg hn] at q0; cases q0
/-- no wish for exceptions: none is told -/
def W0 : Wish := fun _ _ _ _ _ => False
theorem se_call (F : FnOk X.prog X.w X.K X.mg X.base CX0 k f fd ps (spM X.K R sem)) (hr : Room k X.A) (hg : Gl X x) (hm : X.mg x = some (.ref f)) (hk : PySem.W.keepIn X.K (.ref f) = true) (hb : Binds X.K fd ps [])
    (ha : SArs X N W0 (e :: es) t) (hdb : (x == ("__debug__" : Str)) = false := by decide) (he : starEach (e :: es) X.env = (false, eval e X.env) :: starEach es X.env := by rfl) (hpl : (backTo pos (starEach es X.env)).any (·.1) = false := by rfl) :
    SE X N W0 (.Call (.Name x p) (e :: es) [] pos) (mCall sem t) :=
  PE.weak (pe_call (E := E0) (dvs := []) F hr hg hm hk hb .nil pass0 ha hdb he hpl) fun σ H Q h => tmE_call (fun _ _ _ _ _ _ _ w _ => w.elim) h
/-- f() -/
theorem se_call0 (F : FnOk X.prog X.w X.K X.mg X.base CX0 k f fd ps (spM X.K R sem)) (hr : Room k X.A) (hg : Gl X x) (hm : X.mg x = some (.ref f)) (hk : PySem.W.keepIn X.K (.ref f) = true) (hb : Binds X.K fd ps [])
    (hdb : (x == ("__debug__" : Str)) = false := by decide) : SE X N W0 (.Call (.Name x p) [] [] pos) (mCall sem mANil) :=
  PE.weak (pe_call0 (E := E0) (dvs := []) F hr hg hm hk hb .nil pass0 hdb) fun σ H Q h => by
    obtain ⟨F, env, s, h⟩ := tmE_call (R := R) (E := E0) (fun _ _ _ _ _ _ _ w _ => w.elim) h
    exact (Run.ret s h) [] .nil
end
end PL

namespace PL
open PySem L2
/-! ## statements -/
/-- what a def hands back: a new object, or plain data -/
def RetV (K : PySem.W.Frag) (N : Ent) (F H : Hp) (z : Rz) (v : V) : Prop := if z.1 then ∃ a, v = .ref a ∧ OwnAt K F H a z.2 ∧ N.H0 a = none else Rep K F v z.2
def RunS (K : PySem.W.Frag) (N : Ent) (W : Wish) (m : MS) (F : Hp) (env : Env) (D : L2.Ends) : Prop :=
  ∃ r, m env = some r ∧ match r with
  | .ok .nx env' => ∀ F' H' σ', SR K N F' H' σ' env' → Same F F' → D.nx σ' H'
  | .ok (.rt z) env' => ∀ F' H' σ' v, SR K N F' H' σ' env' → Same F F' → RetV K N F' H' z v → D.rt v H'
  | .ok .bk env' => ∀ F' H' σ', SR K N F' H' σ' env' → Same F F' → D.bk σ' H'
  | .ok .ct env' => ∀ F' H' σ', SR K N F' H' σ' env' → Same F F' → D.ct σ' H'
  | .exc x env' => ∀ F' H' σ', SR K N F' H' σ' env' → W x env' σ' F' H'
def tmS (K : PySem.W.Frag) (N : Ent) (W : Wish) (m : MS) : TS := fun D σ H => ∃ F env, SR K N F H σ env ∧ RunS K N W m F env D
abbrev SS (X : Cx) (N : Ent) (W : Wish) (st : Stmt) (m : MS) : Prop := PS X st (tmS X.K N W m)
abbrev SSs (X : Cx) (N : Ent) (W : Wish) (st : List Stmt) (m : MS) : Prop := PSs X st (tmS X.K N W m)
section
variable {K : PySem.W.Frag} {N : Ent} {W : Wish} {σ : L2.St} {F H : Hp} {env : Env} {α : Type}
/-- ahead of a statement's own step: an expression -/
theorem RunS.bnd {m : M α} {f : α → MS} {D : L2.Ends} (h : RunS K N W (bnd m f) F env D) : Run K N W m F H env σ (fun a F1 H1 env1 => Ev K N σ F H env F1 H1 env1 ∧ RunS K N W (f a) F1 env1 D) := by
  obtain ⟨r, e, h⟩ := h
  unfold PL.bnd at e
  cases q : m env with
  | none => rw [q] at e; cases e
  | some x =>
    rw [q] at e
    cases x with
    | exc x e' => cases e; exact ⟨_, q, fun F1 H1 v1 => h F1 H1 σ v1.sr⟩
    | ok a e' =>
      refine ⟨_, q, fun F1 H1 v1 => ⟨v1, r, e, ?_⟩⟩
      cases r with
      | ok fl e2 =>
        cases fl with
        | nx => exact fun F2 H2 σ2 s2 e2 => h F2 H2 σ2 s2 (v1.ff.trans e2)
        | rt d => exact fun F2 H2 σ2 v s2 e2 r2 => h F2 H2 σ2 v s2 (v1.ff.trans e2) r2
        | bk => exact fun F2 H2 σ2 s2 e2 => h F2 H2 σ2 s2 (v1.ff.trans e2)
        | ct => exact fun F2 H2 σ2 s2 e2 => h F2 H2 σ2 s2 (v1.ff.trans e2)
      | exc x e2 => exact h
end
def mSkip : MS := ret .nx
def mBrk : MS := ret .bk
def mCnt : MS := ret .ct
def mSeq (a b : MS) : MS := bnd a fun fl => match fl with
  | .nx => b
  | fl => ret fl
def mExpr (m : ME) : MS := bnd m fun _ => ret .nx
def mRet (m : ME) : MS := bnd m fun rv env => match rv with
  | .val d => some (.ok (.rt (false, d)) env)
  | .new d => some (.ok (.rt (true, d)) env)
  | .bor i => match env[i]? with
    | some (.fz d) => some (.ok (.rt (false, d)) env)
    | some (.ow d) => some (.ok (.rt (true, d)) env)
    | _ => none
def mRetN : MS := ret (.rt (false, .non))
def mIte (t : M Bool) (a b : MS) : MS := bnd t fun k => if k then a else b
/-- what a name holds behind an assignment -/
def putRv (env : Env) (i : Nat) (rv : Rv) : Option Env := match rv with
  | .val d => some (env.set i (.fz d))
  | .new d => some (env.set i (.ow d))
  | .bor j => (settle (.bor j) env).map fun y => y.2.set i (.fz y.1)
/-- a slot that may be stored to -/
def noIo : Option Sl → Bool
  | none => false
  | some (.io _) => false
  | _ => true
def setSl (env : Env) (i : Nat) (rv : Rv) : Option Env := if noIo env[i]? = true then putRv env i rv else none
theorem setSl_some {env env' : Env} {i : Nat} {rv : Rv} (h : setSl env i rv = some env') : ∃ x, env[i]? = some x ∧ (∀ d, x ≠ .io d) ∧ putRv env i rv = some env' := by
  unfold setSl at h
  split at h
  · rename_i hn
    cases q : env[i]? with
    | none => rw [q] at hn; cases hn
    | some x =>
      refine ⟨x, rfl, fun d e => ?_, h⟩
      rw [q, e] at hn
      cases hn
  · cases h
def mSet (i : Nat) (m : ME) : MS := bnd m fun rv env => (setSl env i rv).map fun e => .ok .nx e
section
variable {K : PySem.W.Frag} {N : Ent} {W : Wish} {σ : L2.St} {F H : Hp} {env : Env}
theorem SR.assign (s : SR K N F H σ env) {i : Nat} {x : Sl} (hx : env[i]? = some x) (hio : ∀ d, x ≠ .io d) {v : V} {d : D} (r : Rep K F v d) : SR K N F H (σ.set i (some v)) (env.set i (.fz d)) := by
  have lt : i < env.length := (List.getElem?_eq_some_iff.mp hx).1
  have lt' : i < σ.length := by rw [← s.len]; exact lt
  have back : ∀ j b, OwnSl (σ.set i (some v)) (env.set i (.fz d)) j b → j ≠ i ∧ OwnSl σ env j b := fun j b q => by
    by_cases hj : j = i
    · subst hj
      have q1 := q.1
      rw [List.getElem?_set_self lt] at q1
      cases q1
    · refine ⟨hj, ?_, ?_⟩
      · rw [← owned_set (x := .fz d) hj]; exact q.1
      · have q2 := q.2; rw [List.getElem?_set_ne (Ne.symm hj)] at q2; exact q2
  refine ⟨s.fh, by rw [List.length_set, List.length_set]; exact s.len, fun j e q => ?_, fun j e q => ?_, fun j e q => ?_, fun p hp => ?_, fun j k b q1 q2 => s.inj j k b (back j b q1).2 (back k b q2).2, s.st0, s.st1, s.st2, s.st3⟩
  · by_cases hj : j = i
    · subst hj
      rw [List.getElem?_set_self lt] at q
      cases q
      exact ⟨v, List.getElem?_set_self lt', r⟩
    · rw [List.getElem?_set_ne (Ne.symm hj)] at q ⊢
      exact s.fz j e q
  · by_cases hj : j = i
    · subst hj; rw [List.getElem?_set_self lt] at q; cases q
    · rw [List.getElem?_set_ne (Ne.symm hj)] at q ⊢
      exact s.ow j e q
  · by_cases hj : j = i
    · subst hj; rw [List.getElem?_set_self lt] at q; cases q
    · rw [List.getElem?_set_ne (Ne.symm hj)] at q ⊢
      exact s.io j e q
  · obtain ⟨e, q1, q2⟩ := s.iok p hp
    have hj : p.1 ≠ i := fun z => by rw [z, hx] at q1; cases q1; exact hio e rfl
    exact ⟨e, by rw [List.getElem?_set_ne (Ne.symm hj)]; exact q1, by rw [List.getElem?_set_ne (Ne.symm hj)]; exact q2⟩
theorem SR.assignNew (s : SR K N F H σ env) {i : Nat} {x : Sl} (hx : env[i]? = some x) (hio : ∀ d, x ≠ .io d) {a : Addr} {d : D} (o : OwnAt K F H a d) (h0 : N.H0 a = none) (n : ¬ Owner σ env a) : SR K N F H (σ.set i (some (.ref a))) (env.set i (.ow d)) := by
  have lt : i < env.length := (List.getElem?_eq_some_iff.mp hx).1
  have lt' : i < σ.length := by rw [← s.len]; exact lt
  have back : ∀ j b, OwnSl (σ.set i (some (.ref a))) (env.set i (.ow d)) j b → (j = i ∧ b = a) ∨ (j ≠ i ∧ OwnSl σ env j b) := fun j b q => by
    by_cases hj : j = i
    · subst hj
      have q2 := q.2
      rw [List.getElem?_set_self lt'] at q2
      cases q2
      exact .inl ⟨rfl, rfl⟩
    · refine .inr ⟨hj, ?_, ?_⟩
      · rw [← owned_set (x := .ow d) hj]; exact q.1
      · have q2 := q.2; rw [List.getElem?_set_ne (Ne.symm hj)] at q2; exact q2
  refine ⟨s.fh, by rw [List.length_set, List.length_set]; exact s.len, fun j e q => ?_, fun j e q => ?_, fun j e q => ?_, fun p hp => ?_, fun j k b q1 q2 => ?_, s.st0, s.st1, s.st2, s.st3⟩
  · by_cases hj : j = i
    · subst hj; rw [List.getElem?_set_self lt] at q; cases q
    · rw [List.getElem?_set_ne (Ne.symm hj)] at q ⊢
      exact s.fz j e q
  · by_cases hj : j = i
    · subst hj; rw [List.getElem?_set_self lt] at q; cases q
      exact ⟨a, List.getElem?_set_self lt', o, h0⟩
    · rw [List.getElem?_set_ne (Ne.symm hj)] at q ⊢
      exact s.ow j e q
  · by_cases hj : j = i
    · subst hj; rw [List.getElem?_set_self lt] at q; cases q
    · rw [List.getElem?_set_ne (Ne.symm hj)] at q ⊢
      exact s.io j e q
  · obtain ⟨e, q1, q2⟩ := s.iok p hp
    have hj : p.1 ≠ i := fun z => by rw [z, hx] at q1; cases q1; exact hio e rfl
    exact ⟨e, by rw [List.getElem?_set_ne (Ne.symm hj)]; exact q1, by rw [List.getElem?_set_ne (Ne.symm hj)]; exact q2⟩
  · rcases back j b q1 with ⟨e1, e2⟩ | ⟨e1, e2⟩
    · rcases back k b q2 with ⟨f1, f2⟩ | ⟨f1, f2⟩
      · rw [e1, f1]
      · exact absurd ⟨k, e2 ▸ f2⟩ n
    · rcases back k b q2 with ⟨f1, f2⟩ | ⟨f1, f2⟩
      · exact absurd ⟨j, f2 ▸ e2⟩ n
      · exact s.inj j k b e2 f2
/-- an assignment to a name -/
theorem set_ok {H0 : Hp} {i : Nat} {rv : Rv} {v : V} {env' : Env} (s : SR K N F H σ env) (r : RepV K N F H σ env rv v) (h : setSl env i rv = some env') : ∃ F', Same F F' ∧ SR K N F' H (σ.set i (some v)) env' := by
  obtain ⟨x, q, hio, h⟩ := setSl_some h
  unfold putRv at h
  cases rv with
  | val d => cases h; exact ⟨F, fun _ _ z => z, s.assign q hio r⟩
  | new d =>
    cases h
    obtain ⟨a, rfl, o, h0, n⟩ := r
    exact ⟨F, fun _ _ z => z, s.assignNew q hio o h0 n⟩
  | bor j =>
    simp only at h
    cases w : settle (.bor j) env with
    | none => rw [w] at h; cases h
    | some y =>
      obtain ⟨d, env2⟩ := y
      rw [w] at h
      cases h
      obtain ⟨F2, v2, rr⟩ := RepV.settle (Ev.refl s) r (by trivial) w
      have hx2 : ∃ x2, env2[i]? = some x2 ∧ ∀ d, x2 ≠ .io d := by
        cases x with
        | io d' => exact absurd rfl (hio d')
        | no =>
          unfold settle at w
          simp only at w
          cases w3 : env[j]? with
          | none => rw [w3] at w; cases w
          | some z =>
            rw [w3] at w
            cases z with
            | no => cases w
            | io _ => cases w
            | fz _ => cases w; exact ⟨_, q, fun _ z => by cases z⟩
            | ow _ =>
              cases w
              have hne : i ≠ j := fun z => by subst z; rw [q] at w3; cases w3
              exact ⟨_, by rw [List.getElem?_set_ne (Ne.symm hne)]; exact q, fun _ z => by cases z⟩
        | fz d' => exact ⟨_, v2.k5 i d' q, fun _ z => by cases z⟩
        | ow d' =>
          unfold settle at w
          simp only at w
          cases w3 : env[j]? with
          | none => rw [w3] at w; cases w
          | some z =>
            rw [w3] at w
            cases z with
            | no => cases w
            | io _ => cases w
            | fz _ => cases w; exact ⟨_, q, fun _ z => by cases z⟩
            | ow _ =>
              cases w
              by_cases hne : i = j
              · subst hne
                exact ⟨_, List.getElem?_set_self (List.getElem?_eq_some_iff.mp q).1, fun _ z => by cases z⟩
              · exact ⟨_, by rw [List.getElem?_set_ne (Ne.symm hne)]; exact q, fun _ z => by cases z⟩
      obtain ⟨x2, hx2, hio2⟩ := hx2
      exact ⟨F2, v2.ff, v2.sr.assign hx2 hio2 rr⟩
end
section
variable {X : Cx} {N : Ent} {W : Wish} {e : Expr} {m : ME} {st : Stmt} {rest a b : List Stmt} {ma mb : MS} {pos : Pos}
theorem sss_nil : SSs X N W [] mSkip := PSs.weak pss_nil fun D σ H ⟨F, env, s, r, q, h⟩ => by cases q; exact h F H σ s fun _ _ z => z
theorem sss_one (h : SS X N W st ma) : SSs X N W [st] ma := pss_one h
theorem tmS_seq {K : PySem.W.Frag} {D : L2.Ends} {σ : L2.St} {H : Hp} (h : tmS K N W (mSeq ma mb) D σ H) : tSeq (tmS K N W ma) (tmS K N W mb) D σ H := by
  obtain ⟨F, env, s, r, q, h⟩ := h
  refine ⟨F, env, s, ?_⟩
  unfold mSeq bnd at q
  cases w : ma env with
  | none => rw [w] at q; cases q
  | some x =>
    rw [w] at q
    cases x with
    | exc x e => cases q; exact ⟨_, w, h⟩
    | ok fl e =>
      refine ⟨_, w, ?_⟩
      cases fl with
      | nx =>
        intro F1 H1 σ1 s1 ff
        refine ⟨F1, e, s1, r, q, ?_⟩
        cases r with
        | ok fl e2 =>
          cases fl with
          | nx => exact fun F2 H2 σ2 s2 e2 => h F2 H2 σ2 s2 (ff.trans e2)
          | rt d => exact fun F2 H2 σ2 v s2 e2 r2 => h F2 H2 σ2 v s2 (ff.trans e2) r2
          | bk => exact fun F2 H2 σ2 s2 e2 => h F2 H2 σ2 s2 (ff.trans e2)
          | ct => exact fun F2 H2 σ2 s2 e2 => h F2 H2 σ2 s2 (ff.trans e2)
        | exc x e2 => exact h
      | rt d => cases q; exact h
      | bk => cases q; exact h
      | ct => cases q; exact h
theorem sss_cons (h1 : SS X N W st ma) (h2 : SSs X N W rest mb) : SSs X N W (st :: rest) (mSeq ma mb) := PSs.weak (pss_cons h1 h2) fun D σ H h => tmS_seq h
theorem ss_pass : SS X N W (.Pass pos) mSkip := PS.weak ps_pass fun D σ H ⟨F, env, s, r, q, h⟩ => by cases q; exact h F H σ s fun _ _ z => z
theorem ss_break : SS X N W (.Break pos) mBrk := PS.weak ps_break fun D σ H ⟨F, env, s, r, q, h⟩ => by cases q; exact h F H σ s fun _ _ z => z
theorem ss_continue : SS X N W (.Continue pos) mCnt := PS.weak ps_continue fun D σ H ⟨F, env, s, r, q, h⟩ => by cases q; exact h F H σ s fun _ _ z => z
theorem ss_never : SS X N W st stuck := PS.weak ps_never fun D σ H ⟨F, env, s, r, q, h⟩ => by cases q
theorem RunS.nx {K : PySem.W.Frag} {D : L2.Ends} {F H : Hp} {σ : L2.St} {env : Env} (s : SR K N F H σ env) (h : RunS K N W (ret .nx) F env D) : D.nx σ H := by
  obtain ⟨r, q, h⟩ := h; cases q; exact h F H σ s fun _ _ z => z
theorem ss_expr (he : SE X N W e m) (hs : swapsWith e none pos.line X.env = pure false := by rfl) : SS X N W (.Expr e pos) (mExpr m) := PS.weak (ps_expr he hs) fun D σ H ⟨F, env, s, h⟩ =>
  ⟨F, env, s, (RunS.bnd h).mono fun rv F1 H1 env1 v1 h1 x rx fx => h1.2.nx v1.sr⟩
theorem ss_ret (he : SE X N W e m) : SS X N W (.Return (some e) pos) (mRet m) := PS.weak (ps_ret he) fun D σ H ⟨F, env, s, h⟩ =>
  ⟨F, env, s, (RunS.bnd h).mono fun rv F1 H1 env1 v1 h1 x rx fx => by
    obtain ⟨r, q, h2⟩ := h1.2
    cases rv with
    | val d => cases q; exact h2 F1 H1 σ x v1.sr (fun _ _ z => z) rx
    | new d =>
      cases q
      obtain ⟨a, e1, o, h0, _⟩ := rx
      exact h2 F1 H1 σ x v1.sr (fun _ _ z => z) ⟨a, e1, o, h0⟩
    | bor i =>
      simp only at q
      obtain ⟨rx, _⟩ := rx
      cases w : env1[i]? with
      | none => rw [w] at q; cases q
      | some y =>
        rw [w] at q
        cases y with
        | no => cases q
        | io d => cases q
        | fz d =>
          cases q
          obtain ⟨u, q1, q2⟩ := v1.sr.fz i d w
          rw [rx] at q1; cases q1
          exact h2 F1 H1 σ x v1.sr (fun _ _ z => z) q2
        | ow d =>
          cases q
          obtain ⟨a, q1, q2, q3⟩ := v1.sr.ow i d w
          rw [rx] at q1; cases q1
          exact h2 F1 H1 σ _ v1.sr (fun _ _ z => z) ⟨a, rfl, q2, q3⟩⟩
theorem ss_retN : SS X N W (.Return none pos) mRetN := PS.weak ps_retN fun D σ H ⟨F, env, s, r, q, h⟩ => by cases q; exact h F H σ .non s (fun _ _ z => z) .non
theorem ss_if {c : Expr} {t : M Bool} (hc : STt X N W c t) (ha : SSs X N W a ma) (hb : SSs X N W b mb) : SS X N W (.If c a b pos) (mIte t ma mb) := PS.weak (ps_if hc ha hb) fun D σ H ⟨F, env, s, h⟩ =>
  ⟨F, env, s, (RunS.bnd h).mono fun k F1 H1 env1 v1 h1 => by
    cases k with
    | true => exact iteT ⟨F1, env1, v1.sr, h1.2⟩
    | false => exact iteF ⟨F1, env1, v1.sr, h1.2⟩⟩
theorem ss_set (i : Nat) {x : Str} {pos' : Pos} (hN : X.N.Nodup) (he : SE X N W e m) (hi : X.N[i]? = some x := by rfl) (hx : Loc X.env.scope x := by first | exact .inl rfl | exact .inr rfl) (hs : swapsWith e (some (.Name x pos')) pos.line X.env = pure false := by rfl)
    (hf : X.fn x = true ∨ X.env.scope.names.lookup x = some .local := by first | exact .inl rfl | exact .inr rfl | assumption) : SS X N W (.Assign [.Name x pos'] e pos) (mSet i m) := PS.weak (ps_set hN hi hx he hs hf) fun D σ H ⟨F, env, s, h⟩ =>
  ⟨F, env, s, (RunS.bnd h).mono fun rv F1 H1 env1 v1 h1 x rx fx => by
    obtain ⟨r, q, h2⟩ := h1.2
    simp only at q
    cases w : setSl env1 i rv with
    | none => rw [w] at q; cases q
    | some env2 =>
      rw [w] at q
      cases q
      obtain ⟨F2, e2, s2⟩ := set_ok (H0 := H) v1.sr rx w
      exact h2 F2 H1 _ s2 e2⟩
end
end PL

namespace PL
open PySem L2
/-! ## while -/
def whileN (c : M Bool) (b : MS) : Nat → MS
  | 0 => stuck
  | n + 1 => bnd c fun k => if k then bnd b fun fl => match fl with
    | .nx => whileN c b n
    | .ct => whileN c b n
    | .bk => ret .nx
    | .rt d => ret (.rt d) else ret .nx
theorem whileN_succ {c : M Bool} {b : MS} : ∀ {n : Nat} {env : Env} {r : Res Fl}, whileN c b n env = some r → whileN c b (n + 1) env = some r
  | 0, _, _, h => by cases h
  | n + 1, env, r, h => by
    have ih := fun env r => @whileN_succ c b n env r
    unfold whileN at h ⊢
    unfold bnd at h ⊢
    cases q : c env with
    | none => rw [q] at h; cases h
    | some x =>
      rw [q] at h
      cases x with
      | exc x e => exact h
      | ok k e =>
        cases k with
        | false => exact h
        | true =>
          simp only [if_true] at h ⊢
          cases q2 : b e with
          | none => rw [q2] at h; cases h
          | some y =>
            rw [q2] at h
            cases y with
            | exc x e => exact h
            | ok fl e =>
              cases fl with
              | nx => exact ih _ _ h
              | ct => exact ih _ _ h
              | bk => exact h
              | rt d => exact h
theorem whileN_le {c : M Bool} {b : MS} {n : Nat} {env : Env} {r : Res Fl} (h : whileN c b n env = some r) : ∀ {k : Nat}, n ≤ k → whileN c b k env = some r := fun {k} hk => by
  induction k with
  | zero => obtain rfl : n = 0 := by omega
            exact h
  | succ k ih =>
    by_cases e : n = k + 1
    · subst e; exact h
    · exact whileN_succ (ih (by omega))
open Classical in
noncomputable def mWhile (c : M Bool) (b : MS) : MS := fun env => if h : ∃ n r, whileN c b n env = some r then whileN c b h.choose env else none
theorem mWhile_of {c : M Bool} {b : MS} {n : Nat} {env : Env} {r : Res Fl} (h : whileN c b n env = some r) : mWhile c b env = some r := by
  have hx : ∃ n r, whileN c b n env = some r := ⟨n, r, h⟩
  unfold mWhile
  rw [dif_pos hx]
  obtain ⟨r', q⟩ := hx.choose_spec
  have e : some r' = some r := by
    rw [← whileN_le q (Nat.le_max_left _ n), ← whileN_le h (Nat.le_max_right hx.choose n)]
  rw [q, e]
theorem of_mWhile {c : M Bool} {b : MS} {env : Env} {r : Res Fl} (h : mWhile c b env = some r) : ∃ n, whileN c b n env = some r := by
  unfold mWhile at h
  split at h
  · exact ⟨_, h⟩
  · cases h
/-- one turn -/
theorem mWhile_eq (c : M Bool) (b : MS) (env : Env) : mWhile c b env = bnd c (fun k => if k then bnd b fun fl => match fl with
    | .nx => mWhile c b
    | .ct => mWhile c b
    | .bk => ret .nx
    | .rt d => ret (.rt d) else ret .nx) env := by
  have one : ∀ r, mWhile c b env = some r ↔ bnd c (fun k => if k then bnd b fun fl => match fl with
    | .nx => mWhile c b
    | .ct => mWhile c b
    | .bk => ret .nx
    | .rt d => ret (.rt d) else ret .nx) env = some r := fun r => by
    constructor
    · intro h
      obtain ⟨n, h⟩ := of_mWhile h
      cases n with
      | zero => cases h
      | succ n =>
        unfold whileN at h
        unfold bnd at h ⊢
        cases q : c env with
        | none => rw [q] at h; cases h
        | some x =>
          rw [q] at h
          cases x with
          | exc x e => exact h
          | ok k e =>
            cases k with
            | false => exact h
            | true =>
              simp only [if_true] at h ⊢
              cases q2 : b e with
              | none => rw [q2] at h; cases h
              | some y =>
                rw [q2] at h
                cases y with
                | exc x e => exact h
                | ok fl e =>
                  cases fl with
                  | nx => exact mWhile_of h
                  | ct => exact mWhile_of h
                  | bk => exact h
                  | rt d => exact h
    · intro h
      unfold bnd at h
      cases q : c env with
      | none => rw [q] at h; cases h
      | some x =>
        rw [q] at h
        cases x with
        | exc x e => exact mWhile_of (n := 1) (by unfold whileN bnd; rw [q]; exact h)
        | ok k e =>
          cases k with
          | false => exact mWhile_of (n := 1) (by unfold whileN bnd; rw [q]; exact h)
          | true =>
            simp only [if_true] at h
            cases q2 : b e with
            | none => rw [q2] at h; cases h
            | some y =>
              rw [q2] at h
              cases y with
              | exc x e => exact mWhile_of (n := 1) (by unfold whileN bnd; rw [q]; simp only [if_true, q2]; exact h)
              | ok fl e =>
                cases fl with
                | nx =>
                  obtain ⟨n, h'⟩ := of_mWhile h
                  exact mWhile_of (n := n + 1) (by unfold whileN bnd; rw [q]; simp only [if_true, q2]; exact h')
                | ct =>
                  obtain ⟨n, h'⟩ := of_mWhile h
                  exact mWhile_of (n := n + 1) (by unfold whileN bnd; rw [q]; simp only [if_true, q2]; exact h')
                | bk => exact mWhile_of (n := 1) (by unfold whileN bnd; rw [q]; simp only [if_true, q2]; exact h)
                | rt d => exact mWhile_of (n := 1) (by unfold whileN bnd; rw [q]; simp only [if_true, q2]; exact h)
  cases q : mWhile c b env with
  | some r => exact ((one r).mp q).symm
  | none =>
    cases q2 : bnd c (fun k => if k then bnd b fun fl => match fl with
    | .nx => mWhile c b
    | .ct => mWhile c b
    | .bk => ret .nx
    | .rt d => ret (.rt d) else ret .nx) env with
    | none => rfl
    | some r => rw [(one r).mpr q2] at q; cases q
section
variable {K : PySem.W.Frag} {N : Ent} {W : Wish} {σ : L2.St} {F H : Hp} {env : Env}
/-- a loop's body, then what follows -/
def mTurn (b : MS) (k : MS) : MS := bnd b fun fl => match fl with
  | .nx => k
  | .ct => k
  | .bk => ret .nx
  | .rt d => ret (.rt d)
theorem RunS.turn {b k : MS} {D : L2.Ends} (s : SR K N F H σ env) (h : RunS K N W (mTurn b k) F env D) {Nx : L2.St → Hp → Prop} (hn : ∀ F' H' σ' env', SR K N F' H' σ' env' → Same F F' → RunS K N W k F' env' D → Nx σ' H') : tmS K N W b { D with nx := Nx, ct := Nx, bk := D.nx } σ H := by
  obtain ⟨r, q, h⟩ := h
  refine ⟨F, env, s, ?_⟩
  unfold mTurn PL.bnd at q
  cases w : b env with
  | none => rw [w] at q; cases q
  | some x =>
    rw [w] at q
    cases x with
    | exc x e => cases q; exact ⟨_, w, h⟩
    | ok fl e =>
      refine ⟨_, w, ?_⟩
      have go : k e = some r → ∀ F1 H1 σ1, SR K N F1 H1 σ1 e → Same F F1 → Nx σ1 H1 := fun q F1 H1 σ1 s1 ff => by
        refine hn F1 H1 σ1 e s1 ff ⟨r, q, ?_⟩
        cases r with
        | ok fl e2 =>
          cases fl with
          | nx => exact fun F2 H2 σ2 s2 e2 => h F2 H2 σ2 s2 (ff.trans e2)
          | rt d => exact fun F2 H2 σ2 v s2 e2 r2 => h F2 H2 σ2 v s2 (ff.trans e2) r2
          | bk => exact fun F2 H2 σ2 s2 e2 => h F2 H2 σ2 s2 (ff.trans e2)
          | ct => exact fun F2 H2 σ2 s2 e2 => h F2 H2 σ2 s2 (ff.trans e2)
        | exc x e2 => exact h
      cases fl with
      | nx => exact go q
      | ct => exact go q
      | rt d => cases q; exact h
      | bk => cases q; exact h
end
section
variable {X : Cx} {N : Ent} {W : Wish} {body : List Stmt} {c : Expr} {t : M Bool} {mb : MS} {pos : Pos}
theorem ss_while (hp : PassesOwn (model X.prog X.w) X.A X.env X.xe) (hc : STt X N W c t) (hb : SSs X N W body mb) : SS X N W (.While c body [] pos) (mWhile t mb) := PS.weak (ps_while hp hc hb) fun D σ H ⟨F, env, s, r, q, h⟩ => by
  obtain ⟨n, q⟩ := of_mWhile q
  refine ⟨fun n σ H => ∃ F env, SR X.K N F H σ env ∧ RunS X.K N W (whileN t mb n) F env D, ⟨n, F, env, s, r, q, h⟩, fun n σ H ⟨F, env, s, h⟩ => ?_⟩
  cases n with
  | zero => obtain ⟨r, q, _⟩ := h; cases q
  | succ n =>
    refine ⟨F, env, s, (RunS.bnd h).mono fun k F1 H1 env1 v1 h1 => ?_⟩
    cases k with
    | false => exact iteF (h1.2.nx v1.sr)
    | true => exact iteT ⟨fun σ H => ∃ F env, SR X.K N F H σ env ∧ RunS X.K N W (whileN t mb n) F env D, fun σ' H' w => ⟨n, Nat.lt_succ_self n, w⟩, RunS.turn (k := whileN t mb n) v1.sr h1.2 fun F' H' σ' env' s' _ h' => ⟨F', env', s', h'⟩⟩
end
/-! ## what is walked -/
abbrev Src := List D × Option (Nat × D)
/-- it is as it was -/
def Src.ok (z : Src) (env : Env) : Prop := match z.2 with
  | none => True
  | some (j, d) => env[j]? = some (.io d)
def Walks (K : PySem.W.Frag) (N : Ent) (F0 : Hp) (J : L2.It) (z : Src) : Prop := ∀ F' H' σ' env', SR K N F' H' σ' env' → Same F0 F' → z.ok env' →
  J.stop z.1.length H' ∧ ∀ (i : Nat) (d : D), z.1[i]? = some d → J.go i H' ∧ ∀ x H2, J.yld i H' x H2 → ∃ F2, Grow F' H' F2 H2 ∧ Rep K F2 x d
def tmI (K : PySem.W.Frag) (N : Ent) (W : Wish) (m : M Src) : TI := fun σ H R => ∃ F env, SR K N F H σ env ∧ Run K N W m F H env σ (fun z F' H' _ => ∀ J, Walks K N F' J z → R J H')
abbrev SI (X : Cx) (N : Ent) (W : Wish) (tg iter : Expr) (m : M Src) : Prop := PI X tg iter (tmI X.K N W m)
theorem PI.weak {X : Cx} {tg e : Expr} {t t' : TI} (h : PI X tg e t) (w : ∀ σ H Q, t' σ H Q → t σ H Q) : PI X tg e t' := ⟨fun pins s σ H Q I q => h.run pins s σ H Q I (w σ H Q q)⟩
theorem PI.or {X : Cx} {tg e : Expr} {t t' : TI} (h : PI X tg e t) (h' : PI X tg e t') : PI X tg e (fun σ H Q => t σ H Q ∨ t' σ H Q) := ⟨fun pins s σ H Q I q => by
  rcases q with q | q
  · exact h.run pins s σ H Q I q
  · exact h'.run pins s σ H Q I q⟩
/-- a list, a tuple that is walked -/
def ioOf (rv : Rv) (env : Env) : Option (Nat × D) := match rv with
  | .bor j => match env[j]? with
    | some (.io d) => some (j, d)
    | _ => none
  | _ => none
def mItems (m : ME) : M Src := bnd m fun rv env => match ioOf rv env with
  | some (j, d) => (items d).map fun ds => .ok (ds, some (j, d)) env
  | none => match settle rv env with
    | some (d, e) => (items d).map fun ds => .ok (ds, none) e
    | none => none
section
variable {K : PySem.W.Frag} {N : Ent} {W : Wish} {σ : L2.St} {F H : Hp} {env : Env}
theorem walks_list {a : Addr} {ds : List D} {o : Option (Nat × D)} (h : ∀ F' H' σ' env', SR K N F' H' σ' env' → Same F F' → Src.ok (ds, o) env' → ∃ xs, SqL K H' a xs ∧ RepL K F' xs ds) (one : ∀ F' H' σ' env' xs ys, SR K N F' H' σ' env' → SqL K H' a xs → SqL K H' a ys → xs = ys) : Walks K N F (Itl K a) (ds, o) := fun F' H' σ' env' s ff ok => by
  obtain ⟨xs, h1, h2⟩ := h F' H' σ' env' s ff ok
  refine ⟨⟨xs, h1, Nat.le_of_eq h2.length⟩, fun i d e => ?_⟩
  obtain ⟨v, w1, w2⟩ := h2.get e
  refine ⟨⟨xs, v, h1, w1⟩, fun x H2 ⟨e1, y⟩ => ?_⟩
  subst e1
  have e2 := y xs h1
  rw [w1] at e2
  cases e2
  exact ⟨F', .refl s.fh, w2⟩
theorem walks_list' {a : Addr} {ds : List D} {o : Option (Nat × D)} (h : ∀ F' H' σ' env', SR K N F' H' σ' env' → Same F F' → Src.ok (ds, o) env' → ∃ xs, SqL K H' a xs ∧ RepL K F' xs ds) : Walks K N F (Itl K a) (ds, o) := fun F' H' σ' env' s ff ok => by
  obtain ⟨xs, h1, h2⟩ := h F' H' σ' env' s ff ok
  refine ⟨⟨xs, h1, Nat.le_of_eq h2.length⟩, fun i d e => ?_⟩
  obtain ⟨v, w1, w2⟩ := h2.get e
  refine ⟨⟨xs, v, h1, w1⟩, fun x H2 ⟨e1, y⟩ => ?_⟩
  subst e1
  have e2 := y xs h1
  rw [w1] at e2
  cases e2
  exact ⟨F', .refl s.fh, w2⟩
theorem walks_tup {a : Addr} {ds : List D} {o : Option (Nat × D)} (h : ∀ F' H' σ' env', SR K N F' H' σ' env' → Same F F' → Src.ok (ds, o) env' → ∃ xs, SqT K H' a xs ∧ RepL K F' xs ds) : Walks K N F (Itt K a) (ds, o) := fun F' H' σ' env' s ff ok => by
  obtain ⟨xs, h1, h2⟩ := h F' H' σ' env' s ff ok
  refine ⟨⟨xs, h1, Nat.le_of_eq h2.length⟩, fun i d e => ?_⟩
  obtain ⟨v, w1, w2⟩ := h2.get e
  refine ⟨⟨xs, v, h1, w1⟩, fun x H2 ⟨e1, y⟩ => ?_⟩
  subst e1
  have e2 := y xs h1
  rw [w1] at e2
  cases e2
  exact ⟨F', .refl s.fh, w2⟩
theorem tmI_items {m : ME} {R : L2.It → Hp → Prop} (h : tmI K N W (mItems m) σ H R) : iList K (tmE K N W m) σ H R ∨ iTup K (tmE K N W m) σ H R := by
  obtain ⟨F, env, s, r, e, h⟩ := h
  unfold mItems bnd at e
  cases q : m env with
  | none => rw [q] at e; cases e
  | some x =>
    rw [q] at e
    cases x with
    | exc x e' => cases e; exact .inl ⟨F, env, s, _, q, h⟩
    | ok rv e' =>
      simp only at e
      cases q1 : ioOf rv e' with
      | some y =>
        obtain ⟨j, d⟩ := y
        rw [q1] at e
        simp only at e
        unfold ioOf at q1
        cases rv with
        | bor k =>
          simp only at q1
          cases q2 : e'[k]? with
          | none => rw [q2] at q1; cases q1
          | some z =>
            rw [q2] at q1
            cases z with
            | io d' =>
              cases q1
              cases q3 : items d with
              | none => rw [q3] at e; cases e
              | some ds =>
                rw [q3] at e
                cases e
                refine .inl ⟨F, env, s, _, q, fun F1 H1 v1 v rv' fv => ?_⟩
                obtain ⟨b, w1, w2, w3⟩ := v1.sr.io _ d q2
                have w0 := rv'.1
                rw [w0] at w1
                cases w1
                have look : ∀ F' H' σ' env', SR K N F' H' σ' env' → env'[j]? = some (.io d) → ∃ xs, SqL K H' b xs ∧ RepL K F' xs ds := fun F' H' σ' env' s' ok => by
                  obtain ⟨b', z1, z2, z3⟩ := s'.io _ d ok
                  obtain ⟨d1, y1, y2⟩ := s'.iok _ w3
                  rw [z1] at y2
                  cases y2
                  cases d with
                  | lst es => cases q3; obtain ⟨_, xs, z4, z5⟩ := z2; exact ⟨xs, SqL.of z4, z5⟩
                  | tup _ => exact z2.2.elim
                  | rol _ => exact z2.2.elim
                  | _ => cases q3
                obtain ⟨xs, z1, z2⟩ := look F1 H1 σ e' v1.sr q2
                exact ⟨b, rfl, ⟨xs, z1⟩, h F1 H1 v1 _ (walks_list' fun F' H' σ' env' s' _ ok => look F' H' σ' env' s' ok)⟩
            | _ => cases q1
        | _ => cases q1
      | none =>
        rw [q1] at e
        simp only at e
        cases q2 : settle rv e' with
        | none => rw [q2] at e; cases e
        | some y =>
          obtain ⟨d, e2⟩ := y
          rw [q2] at e
          simp only at e
          cases q3 : items d with
          | none => rw [q3] at e; cases e
          | some ds =>
            rw [q3] at e
            cases e
            cases d with
            | tup es =>
              cases q3
              refine .inr ⟨F, env, s, _, q, fun F1 H1 v1 v rv' fv => ?_⟩
              obtain ⟨F2, v2, rr⟩ := RepV.settle v1 rv' fv q2
              cases rr with
              | tup hx hr => exact ⟨_, rfl, ⟨_, Same.seqT v2.sr.fh hx⟩, h F2 H1 v2 _ (walks_tup fun F' H' σ' env' s' ff _ => ⟨_, Same.seqT (ff.trans s'.fh) hx, hr.mono ff⟩)⟩
            | lst es =>
              cases q3
              refine .inl ⟨F, env, s, _, q, fun F1 H1 v1 v rv' fv => ?_⟩
              obtain ⟨F2, v2, rr⟩ := RepV.settle v1 rv' fv q2
              cases rr with
              | lst hx hr => exact ⟨_, rfl, ⟨_, SqL.of (v2.sr.fh _ _ hx)⟩, h F2 H1 v2 _ (walks_list' fun F' H' σ' env' s' ff _ => ⟨_, SqL.of (s'.fh _ _ (ff _ _ hx)), hr.mono ff⟩)⟩
            | rol es =>
              cases q3
              refine .inl ⟨F, env, s, _, q, fun F1 H1 v1 v rv' fv => ?_⟩
              obtain ⟨F2, v2, rr⟩ := RepV.settle v1 rv' fv q2
              cases rr with
              | rol hx hr => exact ⟨_, rfl, ⟨_, v2.sr.fh.seq hx⟩, h F2 H1 v2 _ (walks_list' fun F' H' σ' env' s' ff _ => ⟨_, s'.fh.seq (ff.seq hx), hr.mono ff⟩)⟩
            | _ => cases q3
end
section
variable {X : Cx} {N : Ent} {W : Wish} {tg e : Expr} {es : List Expr} {m : ME} {pos p : Pos}
theorem si_items (he : SE X N W e m) : SI X N W tg e (mItems m) := PI.weak (PI.or (pi_list he) (pi_tup he)) fun σ H Q h => tmI_items h
/-! ### ranges -/
def rngD (lo : Int) (n : Nat) : List D := (List.range n).map fun k => .int (lo + (k : Nat))
def rngC (lo c : Int) (n : Nat) : List D := (List.range n).map fun k => .int (lo + (k : Nat) * c)
theorem walks_rng {K : PySem.W.Frag} {F : Hp} (lo : Int) (n : Nat) : Walks K N F (Itr lo n) (rngD lo n, none) := fun F' H' σ' env' s ff ok => by
  refine ⟨by show n ≤ (rngD lo n).length; unfold rngD; simp, fun i d e => ?_⟩
  have hi : i < n := by
    have := (List.getElem?_eq_some_iff.mp e).1
    unfold rngD at this
    simpa using this
  refine ⟨hi, fun x H2 ⟨e1, e2⟩ => ?_⟩
  subst e1 e2
  unfold rngD at e
  simp [hi] at e
  subst e
  exact ⟨F', .refl s.fh, .int _⟩
def mRng (f : List Int → Option Src) (t : M (List D)) : M Src := bnd t fun ds env => match (intsD ds).bind f with
  | some z => some (.ok z env)
  | none => none
def rng1 : List Int → Option Src
  | [j] => if -(2 ^ 62) ≤ j ∧ j < 2 ^ 62 then some (rngD 0 j.toNat, none) else none
  | _ => none
def rng2 : List Int → Option Src
  | [i, j] => if -(2 ^ 62) ≤ i ∧ i < 2 ^ 62 ∧ -(2 ^ 62) ≤ j ∧ j < 2 ^ 62 then some (rngD i (j - i).toNat, none) else none
  | _ => none
def rgOk (i j c : Int) : Bool := decide (c ≠ 0) && decide (c.natAbs < 1073741824) && Builtin.Range.small i j c && decide (0 ≤ Builtin.Range.rangeSize i j c)
def rng3 : List Int → Option Src
  | [i, j, c] => if c = -1 ∧ -(2 ^ 62) ≤ i ∧ i < 2 ^ 62 ∧ -(2 ^ 62) ≤ j ∧ j < 2 ^ 62 then some (rngC i (-1) (i - j).toNat, none) else if rgOk i j c = true then some (rngC i c (Builtin.Range.rangeSize i j c).toNat, none) else none
  | _ => none
theorem run_rng {K : PySem.W.Frag} {σ : L2.St} {F H : Hp} {env : Env} {f : List Int → Option Src} {t : M (List D)} {P : Src → Hp → Hp → Env → Prop} (h : Run K N W (mRng f t) F H env σ P) :
    Run K N W t F H env σ (fun ds F1 H1 env1 => ∃ ns z, intsD ds = some ns ∧ f ns = some z ∧ P z F1 H1 env1 ∧ SR K N F1 H1 σ env1) := h.bnd.mono fun ds F1 H1 env1 v1 ⟨r, q, h1⟩ => by
  simp only at q
  cases q1 : intsD ds with
  | none => rw [q1] at q; cases q
  | some ns =>
    rw [q1] at q
    simp only [Option.bind_some] at q
    cases q2 : f ns with
    | none => rw [q2] at q; cases q
    | some z => rw [q2] at q; cases q; exact ⟨ns, z, rfl, q2, h1 F1 H1 (.refl v1.sr), v1.sr⟩
theorem RepL.ints' {K : PySem.W.Frag} {F : Hp} {vs : List V} {ds : List D} {ns : List Int} (h : RepL K F vs ds) (q : intsD ds = some ns) : vs = ns.map V.int := by
  rw [intsD_eq q] at h; exact h.ints
theorem si_range1 {a : Expr} {t : M (List D)} (hg : Gl X "range") (hm : X.mg "range" = none) (ha : SA X N W [a] t) (hs : starEach [a] X.env = [(false, eval a X.env)] := by rfl) : SI X N W tg (.Call (.Name "range" p) [a] [] pos) (mRng rng1 t) :=
  PI.weak (pi_range1 hg hm ha hs) fun σ H R ⟨F, env, s, h⟩ => ⟨F, env, s, (run_rng h).mono fun ds F1 H1 env1 v1 ⟨ns, z, q1, q2, h1, s1⟩ vs rs => by
    match ns, q2 with
    | [j], q2 =>
      unfold rng1 at q2
      by_cases hc : -(2 ^ 62) ≤ j ∧ j < 2 ^ 62
      · simp only [if_pos hc] at q2
        cases q2
        exact ⟨j, rs.ints' q1, hc.1, hc.2, h1 _ (walks_rng 0 j.toNat)⟩
      · simp only [if_neg hc] at q2; cases q2⟩
theorem si_range2 {a b : Expr} {t : M (List D)} (hg : Gl X "range") (hm : X.mg "range" = none) (ha : SA X N W [a, b] t) (hs : starEach [a, b] X.env = [(false, eval a X.env), (false, eval b X.env)] := by rfl) (hs2 : starEach [b] X.env = [(false, eval b X.env)] := by rfl) :
    SI X N W tg (.Call (.Name "range" p) [a, b] [] pos) (mRng rng2 t) :=
  PI.weak (pi_range2 hg hm ha hs hs2) fun σ H R ⟨F, env, s, h⟩ => ⟨F, env, s, (run_rng h).mono fun ds F1 H1 env1 v1 ⟨ns, z, q1, q2, h1, s1⟩ vs rs => by
    match ns, q2 with
    | [i, j], q2 =>
      unfold rng2 at q2
      by_cases hc : -(2 ^ 62) ≤ i ∧ i < 2 ^ 62 ∧ -(2 ^ 62) ≤ j ∧ j < 2 ^ 62
      · simp only [if_pos hc] at q2
        cases q2
        exact ⟨i, j, rs.ints' q1, hc, h1 _ (walks_rng i (j - i).toNat)⟩
      · simp only [if_neg hc] at q2; cases q2⟩
theorem walks_rngC {K : PySem.W.Frag} {F : Hp} (lo c : Int) (n : Nat) : Walks K N F (Itc lo c n) (rngC lo c n, none) := fun F' H' σ' env' s ff ok => by
  refine ⟨by show n ≤ (rngC lo c n).length; unfold rngC; simp, fun i d e => ?_⟩
  have hi : i < n := by
    have := (List.getElem?_eq_some_iff.mp e).1
    unfold rngC at this
    simpa using this
  refine ⟨hi, fun x H2 ⟨e1, e2⟩ => ?_⟩
  subst e1 e2
  unfold rngC at e
  simp [hi] at e
  subst e
  exact ⟨F', .refl s.fh, .int _⟩
theorem si_range3 {a b c : Expr} {t : M (List D)} (hg : Gl X "range") (hm : X.mg "range" = none) (ha : SA X N W [a, b, c] t) (hs : starEach [a, b, c] X.env = (false, eval a X.env) :: starEach [b, c] X.env := by rfl) (hpl : (backTo pos (starEach [b, c] X.env)).any (·.1) = false := by rfl) :
    SI X N W tg (.Call (.Name "range" p) [a, b, c] [] pos) (mRng rng3 t) :=
  PI.weak (pi_range3 hg hm ha hs hpl) fun σ H R ⟨F, env, s, h⟩ => ⟨F, env, s, (run_rng h).mono fun ds F1 H1 env1 v1 ⟨ns, z, q1, q2, h1, s1⟩ vs rs => by
    match ns, q2 with
    | [i, j, c], q2 =>
      unfold rng3 at q2
      by_cases hn : c = -1 ∧ -(2 ^ 62) ≤ i ∧ i < 2 ^ 62 ∧ -(2 ^ 62) ≤ j ∧ j < 2 ^ 62
      · simp only [if_pos hn] at q2
        cases q2
        obtain ⟨rfl, n1, n2, n3, n4⟩ := hn
        exact ⟨i, j, -1, _, rs.ints' q1, RgC.neg n1 n2 n3 n4, h1 _ (walks_rngC i (-1) _)⟩
      · simp only [if_neg hn] at q2
        by_cases hc : rgOk i j c = true
        · simp only [if_pos hc] at q2
          cases q2
          unfold rgOk at hc
          simp only [Bool.and_eq_true, decide_eq_true_eq] at hc
          obtain ⟨⟨⟨c1, c2⟩, c3⟩, c4⟩ := hc
          exact ⟨i, j, c, _, rs.ints' q1, ⟨c1, c2, c3, by omega⟩, h1 _ (walks_rngC i c _)⟩
        · simp only [if_neg hc] at q2; cases q2⟩
end
/-! ## targets -/
/-- only the slots of is have changed -/
def Out (is : List Nat) (σ σ' : L2.St) : Prop := σ'.length = σ.length ∧ ∀ j : Nat, j ∉ is → σ'[j]? = σ[j]?
theorem Out.trans {is js : List Nat} {σ σ1 σ2 : L2.St} (a : Out is σ σ1) (b : Out js σ1 σ2) : Out (is ++ js) σ σ2 :=
  ⟨b.1.trans a.1, fun j h => by rw [List.mem_append, not_or] at h; rw [b.2 j h.2, a.2 j h.1]⟩
/-- what is assigned: plain data to a target -/
def tmG (K : PySem.W.Frag) (N : Ent) (is : List Nat) (g : D → Env → Option Env) : TG := fun v σ H Q => ∃ F env d, SR K N F H σ env ∧ Rep K F v d ∧ ∃ env', g d env = some env' ∧ ∀ σ', SR K N F H σ' env' → Out is σ σ' → Q σ' H
abbrev SG (X : Cx) (N : Ent) (is : List Nat) (tg : Expr) (g : D → Env → Option Env) : Prop := PG X tg (tmG X.K N is g)
theorem PG.weak {X : Cx} {e : Expr} {t t' : TG} (h : PG X e t) (w : ∀ v σ H Q, t' v σ H Q → t v σ H Q) : PG X e t' := ⟨fun pins s σ H v u Q I r q => h.run pins s σ H v u Q I r (w v σ H Q q)⟩
theorem PGs.weak {X : Cx} {e : List Expr} {t t' : TGs} (h : PGs X e t) (w : ∀ v σ H Q, t' v σ H Q → t v σ H Q) : PGs X e t' := ⟨fun pins s σ H v u Q I r q => h.run pins s σ H v u Q I r (w v σ H Q q)⟩
def gNm (i : Nat) : D → Env → Option Env := fun d env => setSl env i (.val d)
def tmGs (K : PySem.W.Frag) (N : Ent) (is : List Nat) (g : List D → Env → Option Env) : TGs := fun vs σ H Q => ∃ F env ds, SR K N F H σ env ∧ RepL K F vs ds ∧ ∃ env', g ds env = some env' ∧ ∀ σ', SR K N F H σ' env' → Out is σ σ' → Q σ' H
abbrev SGs (X : Cx) (N : Ent) (is : List Nat) (tg : List Expr) (g : List D → Env → Option Env) : Prop := PGs X tg (tmGs X.K N is g)
def gsNil : List D → Env → Option Env := fun ds env => match ds with
  | [] => some env
  | _ => none
def gsCons (g : D → Env → Option Env) (gs : List D → Env → Option Env) : List D → Env → Option Env := fun ds env => match ds with
  | [] => none
  | d :: ds => (g d env).bind (gs ds)
def gTp (n : Nat) (gs : List D → Env → Option Env) : D → Env → Option Env := fun d env => match d with
  | .tup ds => if ds.length = n then gs ds env else none
  | _ => none
/-- what an assignment of plain data does to the slots -/
def GOk (is : List Nat) (g : D → Env → Option Env) : Prop := ∀ d env env', g d env = some env' → (∀ j : Nat, j ∉ is → env'[j]? = env[j]?) ∧ ∀ j : Nat, j ∈ is → owned env'[j]? = none
def GsOk (is : List Nat) (g : List D → Env → Option Env) : Prop := ∀ d env env', g d env = some env' → (∀ j : Nat, j ∉ is → env'[j]? = env[j]?) ∧ ∀ j : Nat, j ∈ is → owned env'[j]? = none
theorem gok_name (i : Nat) : GOk [i] (gNm i) := fun d env env' h => by
  obtain ⟨x, q, hio, h⟩ := setSl_some h
  have lt : i < env.length := (List.getElem?_eq_some_iff.mp q).1
  cases h
  refine ⟨fun j hj => ?_, fun j hj => ?_⟩
  · have : j ≠ i := by simpa using hj
    rw [List.getElem?_set_ne (Ne.symm this)]
  · have : j = i := by simpa using hj
    subst this
    rw [List.getElem?_set_self lt]; rfl
theorem gsok_nil : GsOk [] gsNil := fun d env env' h => by
  cases d with
  | nil => cases h; exact ⟨fun _ _ => rfl, fun j hj => by cases hj⟩
  | cons _ _ => cases h
theorem gsok_cons {is js : List Nat} {g : D → Env → Option Env} {gs : List D → Env → Option Env} (h1 : GOk is g) (h2 : GsOk js gs) : GsOk (is ++ js) (gsCons g gs) := fun ds env env' h => by
  cases ds with
  | nil => cases h
  | cons d ds =>
    unfold gsCons at h
    simp only at h
    cases w : g d env with
    | none => rw [w] at h; cases h
    | some e1 =>
      rw [w] at h
      obtain ⟨a1, a2⟩ := h1 d env e1 w
      obtain ⟨b1, b2⟩ := h2 ds e1 env' h
      refine ⟨fun j hj => ?_, fun j hj => ?_⟩
      · rw [List.mem_append, not_or] at hj
        rw [b1 j hj.2, a1 j hj.1]
      · by_cases hb : j ∈ js
        · exact b2 j hb
        · rw [b1 j hb]
          exact a2 j ((List.mem_append.mp hj).resolve_right hb)
theorem gok_tup {is : List Nat} {n : Nat} {gs : List D → Env → Option Env} (h : GsOk is gs) : GOk is (gTp n gs) := fun d env env' q => by
  cases d with
  | tup ds =>
    unfold gTp at q
    by_cases hl : ds.length = n
    · simp only [if_pos hl] at q; exact h ds env env' q
    · simp only [if_neg hl] at q; cases q
  | _ => cases q
section
variable {X : Cx} {N : Ent} {W : Wish} {pos : Pos}
theorem sg_name (i : Nat) {x : Str} (hN : X.N.Nodup) (hi : X.N[i]? = some x := by rfl) (hx : Loc X.env.scope x := by first | exact .inl rfl | exact .inr rfl) (hf : X.fn x = true ∨ X.env.scope.names.lookup x = some .local := by first | exact .inl rfl | exact .inr rfl | assumption) : SG X N [i] (.Name x pos) (gNm i) :=
  PG.weak (pg_name hN hi hx hf) fun v σ H Q ⟨F, env, d, s, r, env', q, h⟩ => by
    have hs : SR X.K N F H (σ.set i (some v)) env' := by
      obtain ⟨x, w, hio, q⟩ := setSl_some q
      cases q
      exact s.assign w hio r
    refine h _ hs ⟨by rw [List.length_set], fun j hj => ?_⟩
    have : j ≠ i := by simpa using hj
    rw [List.getElem?_set_ne (Ne.symm this)]
theorem sgs_nil : SGs X N [] [] gsNil := PGs.weak pgs_nil fun v σ H Q ⟨F, env, ds, s, r, env', q, h⟩ => by
  cases r with
  | nil => cases q; exact ⟨rfl, h σ s ⟨rfl, fun _ _ => rfl⟩⟩
  | cons _ _ => cases q
theorem sgs_cons {e : Expr} {es : List Expr} {is js : List Nat} {g : D → Env → Option Env} {gs : List D → Env → Option Env} (h1 : SG X N is e g) (h2 : SGs X N js es gs) (hs : (assignEach (e :: es) X.env).map (·.2) = assign e X.env :: (assignEach es X.env).map (·.2) := by rfl) : SGs X N (is ++ js) (e :: es) (gsCons g gs) :=
  PGs.weak (pgs_cons h1 h2 hs) fun vs σ H Q ⟨F, env, ds, s, r, env', q, h⟩ => by
    cases r with
    | nil => cases q
    | @cons v vs d ds r rr =>
      unfold gsCons at q
      simp only at q
      cases w : g d env with
      | none => rw [w] at q; cases q
      | some e1 =>
        rw [w] at q
        exact ⟨_, _, rfl, F, env, d, s, r, e1, w, fun σ1 s1 o1 => ⟨F, e1, ds, s1, rr, env', q, fun σ2 s2 o2 => h σ2 s2 (o1.trans o2)⟩⟩
theorem sg_tup {es : List Expr} {is : List Nat} {k n : Nat} {gs : List D → Env → Option Env} (hc : X.calm = true) (h : SGs X N is es gs)
    (hn : (assignEach es X.env).length = n := by rfl) (hst : (assignEach es X.env).findIdx? (·.1) = none := by rfl) : SG X N is (.Tuple es k pos) (gTp n gs) :=
  PG.weak (pg_tup hc h hn hst) fun v σ H Q ⟨F, env, d, s, r, env', q, h⟩ => by
    cases d with
    | tup ds =>
      unfold gTp at q
      by_cases hl : ds.length = n
      · simp only [if_pos hl] at q
        cases r with
        | tup hx hr => exact ⟨_, _, rfl, Same.seqT s.fh hx, by rw [hr.length]; exact hl, F, env, ds, s, hr, env', q, h⟩
      · simp only [if_neg hl] at q; cases q
    | _ => cases q
/-- a, b = e: e a tuple -/
def mAsg (g : D → Env → Option Env) (m : ME) : MS := bnd (mD m) fun d env => (g d env).map fun e => .ok .nx e
theorem ss_asg {tg e : Expr} {m : ME} {is : List Nat} {g : D → Env → Option Env} (he : SE X N W e m) (hg : SG X N is tg g) (hs : swapsWithSole [tg] e pos.line X.env = pure false := by rfl) (hw : swappedStores [tg] e X.env = pure none := by rfl)
    (h1 : (assignEach [tg] X.env).map (·.2) = [assign tg X.env] := by rfl) : SS X N W (.Assign [tg] e pos) (mAsg g m) := PS.weak (ps_asg he hg hs hw h1) fun D σ H ⟨F, env, s, h⟩ =>
  tmE_d s (RunS.bnd h) fun d F1 H1 env1 v v1 rr h1 => by
    obtain ⟨r, q, h2⟩ := h1.2
    simp only at q
    cases w : g d env1 with
    | none => rw [w] at q; cases q
    | some e1 => rw [w] at q; cases q; exact ⟨F1, env1, d, v1.sr, rr, e1, w, fun σ2 s2 _ => h2 F1 H1 σ2 s2 fun _ _ z => z⟩
end
end PL

namespace PL
open PySem L2
/-! ## several names at once -/
/-- settled, but an object of one's own stays so -/
def mSt (m : ME) : ME := bnd m fun rv env => match rv with
  | .bor k => match settle (.bor k) env with
    | some (d, e) => some (.ok (.val d) e)
    | none => none
  | rv => some (.ok rv env)
def noBor : Rv → Prop
  | .bor _ => False
  | _ => True
inductive RepN (K : PySem.W.Frag) (N : Ent) (F H : Hp) (σ : L2.St) (env : Env) : List Rv → List V → Prop
  | nil : RepN K N F H σ env [] []
  | cons {rv : Rv} {v : V} {rvs : List Rv} {vs : List V} : RepV K N F H σ env rv v → noBor rv → (∀ a, v = .ref a → (∃ d, rv = .new d) → ∀ (j : Nat) (d : D), rvs[j]? = some (.new d) → vs[j]? ≠ some (.ref a)) → RepN K N F H σ env rvs vs → RepN K N F H σ env (rv :: rvs) (v :: vs)
def FreshN (H : Hp) : List Rv → List V → Prop := fun rvs vs => ∀ (j : Nat) (d : D) (a : Addr), rvs[j]? = some (.new d) → vs[j]? = some (.ref a) → H a = none
def mPNil : M (List Rv) := ret []
def mPCons (m : ME) (t : M (List Rv)) : M (List Rv) := bnd (mSt m) fun rv => bnd t fun rvs => ret (rv :: rvs)
def tmP (K : PySem.W.Frag) (N : Ent) (W : Wish) (m : M (List Rv)) : TA := fun σ H Q => ∃ F env, SR K N F H σ env ∧ Run K N W m F H env σ (fun rvs F' H' env' => ∀ vs, RepN K N F' H' σ env' rvs vs → FreshN H rvs vs → Q vs H')
abbrev SAp (X : Cx) (N : Ent) (W : Wish) (e : List Expr) (m : M (List Rv)) : Prop := PA X e (tmP X.K N W m)
section
variable {K : PySem.W.Frag} {N : Ent} {W : Wish} {σ : L2.St} {F H : Hp} {env : Env}
theorem tmE_st {m : ME} {P : Rv → Hp → Hp → Env → Prop} {Q : VK} (s : SR K N F H σ env) (h : Run K N W (mSt m) F H env σ P) (k : ∀ rv F1 H1 env1 v, Ev K N σ F H env F1 H1 env1 → RepV K N F1 H1 σ env1 rv v → Fresh H rv v → noBor rv → P rv F1 H1 env1 → Q v H1) : tmE K N W m σ H Q := by
  refine ⟨F, env, s, ?_⟩
  obtain ⟨r, e, h⟩ := h
  unfold mSt PL.bnd at e
  cases q : m env with
  | none => rw [q] at e; cases e
  | some x =>
    rw [q] at e
    cases x with
    | exc x e' => cases e; exact ⟨_, q, h⟩
    | ok rv e' =>
      refine ⟨_, q, fun F1 H1 v1 v rv' fv => ?_⟩
      cases rv with
      | val d => cases e; exact k _ _ _ _ v v1 rv' fv trivial (h F1 H1 v1)
      | new d => cases e; exact k _ _ _ _ v v1 rv' fv trivial (h F1 H1 v1)
      | bor j =>
        simp only at e
        cases q2 : settle (.bor j) e' with
        | none => rw [q2] at e; cases e
        | some y =>
          obtain ⟨d, e2⟩ := y
          rw [q2] at e
          cases e
          obtain ⟨F2, v2, rr⟩ := RepV.settle v1 rv' fv q2
          exact k (.val d) F2 H1 e2 v v2 rr trivial trivial (h F2 H1 v2)
theorem RepN.ev {F1 H1 : Hp} {env1 : Env} (e : Ev K N σ F H env F1 H1 env1) : ∀ {rvs : List Rv} {vs : List V}, RepN K N F H σ env rvs vs → RepN K N F1 H1 σ env1 rvs vs
  | _, _, .nil => .nil
  | _, _, .cons r n d t => .cons (r.ev e) n d (t.ev e)
theorem RepN.newAt : ∀ {rvs : List Rv} {vs : List V} {j : Nat} {d : D}, RepN K N F H σ env rvs vs → rvs[j]? = some (.new d) → ∃ a, vs[j]? = some (.ref a) ∧ H a ≠ none
  | _, _, _, _, .nil, e => by simp at e
  | _, _, 0, d, .cons r _ _ _, e => by
    simp at e
    subst e
    obtain ⟨a, rfl, o, _⟩ := r
    exact ⟨a, rfl, o.there⟩
  | _, _, j + 1, d, .cons _ _ _ t, e => by
    obtain ⟨a, h1, h2⟩ := RepN.newAt (j := j) (d := d) t (by simpa using e)
    exact ⟨a, by simpa using h1, h2⟩
end
section
variable {X : Cx} {N : Ent} {W : Wish} {e : Expr} {es : List Expr} {m : ME} {t : M (List Rv)}
theorem sap_nil : SAp X N W [] mPNil := PA.weak pa_nil fun σ H Q ⟨F, env, s, h⟩ => (Run.ret s h) [] .nil fun j d a q _ => by simp at q
theorem sap_cons (he : SE X N W e m) (hr : SAp X N W es t) (hs : starEach (e :: es) X.env = (false, eval e X.env) :: starEach es X.env := by rfl) : SAp X N W (e :: es) (mPCons m t) := PA.weak (pa_cons he hr hs) fun σ H Q ⟨F, env, s, h⟩ =>
  tmE_st s h.bnd fun rv F1 H1 env1 v v1 rr fr nb h1 => ⟨F1, env1, v1.sr, h1.bnd.mono fun rvs F2 H2 env2 v2 h2 vs rs fs => by
    refine Run.ret v2.sr h2 (v :: vs) (.cons (rr.ev v2) nb (fun a ea ⟨d, ed⟩ j d' q1 q2 => ?_) rs) fun j d a q1 q2 => ?_
    · subst ed ea
      obtain ⟨a', ea, o, _⟩ := rr
      cases ea
      exact o.there (fs j d' a q1 q2)
    · cases j with
      | zero =>
        simp at q1 q2
        subst q1 q2
        obtain ⟨a', ea, hn⟩ := fr
        cases ea
        exact hn
      | succ j =>
        have z := fs j d a (by simpa using q1) (by simpa using q2)
        cases w : H a with
        | none => rfl
        | some o => exact absurd z (v1.k3 a (by rw [w]; exact fun z => nomatch z))⟩
end
def putN : List Nat → List Rv → Env → Option Env
  | [], [], env => some env
  | i :: is, rv :: rvs, env => (setSl env i rv).bind (putN is rvs)
  | _, _, _ => none
def setN : L2.St → List Nat → List V → L2.St
  | σ, i :: is, v :: vs => setN (σ.set i (some v)) is vs
  | σ, _, _ => σ
section
variable {K : PySem.W.Frag} {N : Ent} {W : Wish}
/-- one of them is stored; the others stand -/
theorem RepN.stored {σ : L2.St} {F H : Hp} {env env' : Env} {i : Nat} {rv : Rv} {v : V} (s : SR K N F H σ env) (r : RepV K N F H σ env rv v) (nb : noBor rv) (h : setSl env i rv = some env') : SR K N F H (σ.set i (some v)) env' ∧
    ∀ {rvs : List Rv} {vs : List V}, (∀ a, v = .ref a → (∃ d, rv = .new d) → ∀ (j : Nat) (d : D), rvs[j]? = some (.new d) → vs[j]? ≠ some (.ref a)) → RepN K N F H σ env rvs vs → RepN K N F H (σ.set i (some v)) env' rvs vs := by
  obtain ⟨x, q, hio, h⟩ := setSl_some h
  have lt : i < env.length := (List.getElem?_eq_some_iff.mp q).1
  have lt' : i < σ.length := by rw [← s.len]; exact lt
  unfold putRv at h
  cases rv with
  | bor k => exact nb.elim
  | val d =>
    cases h
    refine ⟨s.assign q hio r, fun {rvs vs} hd rs => ?_⟩
    have no : ∀ b, ¬ Owner σ env b → ¬ Owner (σ.set i (some v)) (env.set i (.fz d)) b := fun b n ⟨j, w1, w2⟩ => by
      by_cases hj : j = i
      · subst hj; rw [List.getElem?_set_self lt] at w1; cases w1
      · rw [List.getElem?_set_ne (Ne.symm hj)] at w1 w2; exact n ⟨j, w1, w2⟩
    clear hd
    induction rs with
    | nil => exact .nil
    | @cons rv' v' rvs' vs' r' n' d' t' ih =>
      refine .cons ?_ n' d' ih
      cases rv' with
      | val d2 => exact r'
      | bor k => exact n'.elim
      | new d2 => obtain ⟨a, e1, e2, e3, e4⟩ := r'; exact ⟨a, e1, e2, e3, no a e4⟩
  | new d =>
    cases h
    obtain ⟨a, rfl, o, h0, n⟩ := r
    refine ⟨s.assignNew q hio o h0 n, fun {rvs vs} hd rs => ?_⟩
    have no : ∀ b, b ≠ a → ¬ Owner σ env b → ¬ Owner (σ.set i (some (.ref a))) (env.set i (.ow d)) b := fun b nb n ⟨j, w1, w2⟩ => by
      by_cases hj : j = i
      · subst hj; rw [List.getElem?_set_self lt'] at w2; cases w2; exact nb rfl
      · rw [List.getElem?_set_ne (Ne.symm hj)] at w1 w2; exact n ⟨j, w1, w2⟩
    replace hd := hd a rfl ⟨d, rfl⟩
    clear q h lt lt'
    induction rs with
    | nil => exact .nil
    | @cons rv' v' rvs' vs' r' n' d' t' ih =>
      refine .cons ?_ n' d' (ih fun j d3 w1 w2 => ?_)
      · cases rv' with
        | val d2 => exact r'
        | bor k => exact n'.elim
        | new d2 =>
          obtain ⟨b, e1, e2, e3, e4⟩ := r'
          refine ⟨b, e1, e2, e3, no b (fun z => ?_) e4⟩
          subst z
          exact hd 0 d2 rfl (by rw [e1]; rfl)
      · exact hd (j + 1) d3 (by simpa using w1) (by simpa using w2)
theorem putN_ok : ∀ {is : List Nat} {rvs : List Rv} {vs : List V} {σ : L2.St} {F H : Hp} {env env' : Env}, SR K N F H σ env → RepN K N F H σ env rvs vs → putN is rvs env = some env' → SR K N F H (setN σ is vs) env' ∧ is.length = vs.length
  | [], _, _, _, _, _, _, _, s, .nil, h => by cases h; exact ⟨s, rfl⟩
  | [], _, _, _, _, _, _, _, s, .cons _ _ _ _, h => by cases h
  | i :: is, _, _, _, _, _, _, _, s, .nil, h => by cases h
  | i :: is, rv :: rvs, v :: vs, σ, F, H, env, env', s, .cons r n d t, h => by
    unfold putN at h
    cases q : setSl env i rv with
    | none => rw [q] at h; cases h
    | some e1 =>
      rw [q] at h
      obtain ⟨s1, k⟩ := RepN.stored s r n q
      obtain ⟨h1, h2⟩ := putN_ok s1 (k d t) h
      exact ⟨h1, by rw [List.length_cons, List.length_cons, h2]⟩
end
def mPar (is : List Nat) (t : M (List Rv)) : MS := bnd t fun rvs env => (putN is rvs env).map fun e => .ok .nx e
section
variable {X : Cx} {N : Ent} {W : Wish} {es : List Expr} {t : M (List Rv)} {pos : Pos}
theorem tmS_par {K : PySem.W.Frag} {is : List Nat} {D : L2.Ends} {σ : L2.St} {H : Hp} (h : tmS K N W (mPar is t) D σ H) : tmP K N W t σ H fun vs H1 => is.length = vs.length ∧ ∃ F1 env1, SR K N F1 H1 σ env1 ∧ (∀ F2 H2, Grow F1 H1 F2 H2 → D.nx (setN σ is vs) H2) := by
  obtain ⟨F, env, s, h⟩ := h
  refine ⟨F, env, s, (RunS.bnd h).mono fun rvs F1 H1 env1 v1 h1 vs rs fs => ?_⟩
  obtain ⟨r, q, h2⟩ := h1.2
  simp only at q
  cases w : putN is rvs env1 with
  | none => rw [w] at q; cases q
  | some e1 =>
    rw [w] at q
    cases q
    refine ⟨(putN_ok v1.sr rs w).2, F1, env1, v1.sr, fun F2 H2 g => ?_⟩
    have v2 := Grow.ev v1.sr g
    exact h2 F2 H2 _ (putN_ok v2.sr (rs.ev v2) w).1 g.ff
theorem ss_par2 {i j : Nat} {x y : Str} {a b : Expr} {px py pt : Pos} {kt k2 pt2} (hc : X.calm = true) (hN : X.N.Nodup) (ha : SAp X N W [a, b] t) (hi : X.N[i]? = some x := by rfl) (hj : X.N[j]? = some y := by rfl) (hij : i ≠ j := by decide)
    (hx : X.env.scope.names.lookup x = some .local := by rfl) (hy : X.env.scope.names.lookup y = some .local := by rfl)
    (hw : swappedStores [.Tuple [.Name x px, .Name y py] kt pt] (.Tuple [a, b] k2 pt2) X.env = pure (some [x, y]) := by rfl)
    (hs : swapsWithSole [.Tuple [.Name x px, .Name y py] kt pt] (.Tuple [a, b] k2 pt2) pos.line X.env = pure false := by rfl) :
    SS X N W (.Assign [.Tuple [.Name x px, .Name y py] kt pt] (.Tuple [a, b] k2 pt2) pos) (mPar [i, j] t) := PS.weak (ps_par hc hN hi hj hij hx hy ha hw hs) fun D σ H h => by
  obtain ⟨F, env, s, h⟩ := tmS_par h
  refine ⟨F, env, s, h.mono fun rvs F1 H1 env1 v1 h1 vs rs fs => ?_⟩
  obtain ⟨hl, F2, env2, s2, h2⟩ := h1 vs rs fs
  match vs, hl with
  | [v, w], _ => exact ⟨v, w, rfl, h2 _ _ (.refl s2.fh)⟩
/-- names, in order -/
def gsN (is : List Nat) : TGs := fun vs σ H Q => is.length = vs.length ∧ Q (setN σ is vs) H
theorem pgsN_nil : PGs X [] (gsN []) := PGs.weak pgs_nil fun vs σ H Q ⟨h1, h2⟩ => by
  cases vs with
  | nil => exact ⟨rfl, h2⟩
  | cons _ _ => cases h1
theorem pgsN_cons (i : Nat) {x : Str} {p : Pos} {is : List Nat} (hN : X.N.Nodup) (h2 : PGs X es (gsN is)) (hi : X.N[i]? = some x := by rfl) (hx : Loc X.env.scope x := by first | exact .inl rfl | exact .inr rfl)
    (hf : X.fn x = true ∨ X.env.scope.names.lookup x = some .local := by first | exact .inl rfl | exact .inr rfl | assumption)
    (hs : (assignEach (.Name x p :: es) X.env).map (·.2) = assign (.Name x p) X.env :: (assignEach es X.env).map (·.2) := by rfl) : PGs X (.Name x p :: es) (gsN (i :: is)) :=
  PGs.weak (pgs_cons (pg_name hN hi hx hf) h2 hs) fun vs σ H Q ⟨h1, h2⟩ => by
    cases vs with
    | nil => cases h1
    | cons v vs => exact ⟨v, vs, rfl, by simpa using h1, h2⟩
/-- a, b, .. = x, y, ..: by the pair that is laid -/
theorem ss_parT {is : List Nat} {ts : List Expr} {pt pt2 : Pos} {kt k2 n : Nat} (hc : X.calm = true) (ha : SAp X N W es t) (hg : PGs X ts (gsN is)) (hz : is.length = n := by rfl) (hn : (assignEach ts X.env).length = n := by rfl) (hst : (assignEach ts X.env).findIdx? (·.1) = none := by rfl) (hlen : n ≤ 1000 := by decide)
    (hs : swapsWithSole [.Tuple ts kt pt] (.Tuple es k2 pt2) pos.line X.env = pure false := by rfl) (hw : swappedStores [.Tuple ts kt pt] (.Tuple es k2 pt2) X.env = pure none := by rfl)
    (h1 : (assignEach [.Tuple ts kt pt] X.env).map (·.2) = [assign (.Tuple ts kt pt) X.env] := by rfl) : SS X N W (.Assign [.Tuple ts kt pt] (.Tuple es k2 pt2) pos) (mPar is t) :=
  PS.weak (ps_asg (pe_tup ha) (pg_tup hc hg hn hst) hs hw h1) fun D σ H h => by
  obtain ⟨F, env, s, h⟩ := tmS_par h
  refine ⟨F, env, s, h.mono fun rvs F1 H1 env1 v1 h1 vs rs fs => ?_⟩
  obtain ⟨hl, F2, env2, s2, h2⟩ := h1 vs rs fs
  refine ⟨by rw [← hl, hz]; exact Nat.le_of_lt (small1000 hlen), fun p hp => ⟨p, vs, rfl, SqT.of upd_same, by rw [← hl, hz], hl, h2 _ _ (.made s2.fh hp)⟩⟩
/-- three local names: stored from the right -/
theorem ss_par3 {i j k : Nat} {x y z : Str} {a b c : Expr} {px py pz pt : Pos} {kt k2 pt2} (hc : X.calm = true) (hN : X.N.Nodup) (ha : SAp X N W [a, b, c] t) (hi : X.N[i]? = some x := by rfl) (hj : X.N[j]? = some y := by rfl) (hk : X.N[k]? = some z := by rfl) (hij : i ≠ j := by decide) (hik : i ≠ k := by decide) (hjk : j ≠ k := by decide)
    (hx : X.env.scope.names.lookup x = some .local := by rfl) (hy : X.env.scope.names.lookup y = some .local := by rfl) (hz : X.env.scope.names.lookup z = some .local := by rfl)
    (hw : swappedStores [.Tuple [.Name x px, .Name y py, .Name z pz] kt pt] (.Tuple [a, b, c] k2 pt2) X.env = pure (some [x, y, z]) := by rfl)
    (hs : swapsWithSole [.Tuple [.Name x px, .Name y py, .Name z pz] kt pt] (.Tuple [a, b, c] k2 pt2) pos.line X.env = pure false := by rfl) :
    SS X N W (.Assign [.Tuple [.Name x px, .Name y py, .Name z pz] kt pt] (.Tuple [a, b, c] k2 pt2) pos) (mPar [i, j, k] t) := by
  refine ⟨fun pins s σ H D I h => ?_⟩
  have h := tmS_par h
  rw [exec_Assign_arm]
  refine wpAny_bind (wpAny_standAt ?_)
  rw [hs]
  refine wpAny_bind (wpAny_pure ?_)
  rw [if_neg (by decide)]
  refine wpAny_bind (PyProof.Rows.Tuple_ (thn (ha.run _ pins s σ H _ I h) fun us s1 ⟨vs, H1, I1, r1, q1⟩ => ?_))
  obtain ⟨hl, F2, env2, sr2, q1⟩ := q1
  obtain ⟨v, w, u, rfl⟩ : ∃ v w u, vs = [v, w, u] := by
    match vs, hl with
    | [v, w, u], _ => exact ⟨v, w, u, rfl⟩
  obtain ⟨u1, u2, u3, rfl, rv, rw', ru⟩ : ∃ u1 u2 u3, us = [u1, u2, u3] ∧ RelV v u1 ∧ RelV w u2 ∧ RelV u u3 := by
    cases r1 with
    | cons p q =>
      cases q with
      | cons p' q' =>
        cases q' with
        | cons p'' q'' => cases q''; exact ⟨_, _, _, rfl, p, p', p''⟩
  refine wpAny_newObj_type ?_ (by show 3 ≤ sizeLine; decide)
  have I2 : Inv X pins σ H1 { s1 with heap := s1.heap.push { cls := .type "tuple", data := .seq [u1, u2, u3].toArray } } := I1.kept (t' := s1.toks) fun b o e => Heap.get?_push_of_some _ e
  rw [hw]
  refine wpAny_bind (wpAny_pure ?_)
  show wpAny (model X.prog X.w) X.A (do rule "assign.swapped-stores"; let items ← unpackItems (.ref s1.heap.objs.size) 3 none; assignInOrder [fun v => bindName X.env z v, fun v => bindName X.env y v, fun v => bindName X.env x v] items.reverse; pure Flow.next) _ _ _
  refine wpAny_bind (wpAny_rule (wpAny_bind (PyProof.Rows.unpackItems_tuple (items := #[u1, u2, u3]) (I.ok.hd hc) (PyProof.Rows.IsTup.new s1.heap _) fun h' hx' => ?_)))
  have I3 := I2.kept (h' := h') (t' := s1.toks) fun b o e => hx' b o (Nat.ne_of_lt (Heap.lt_size e)) e
  show wpAny _ _ (assignInOrder [fun v => bindName X.env z v, fun v => bindName X.env y v, fun v => bindName X.env x v] [u3, u2, u1] >>= fun _ => pure Flow.next) _ _ _
  refine wpAny_bind (PyProof.Rows.assignInOrder_cons (wpAny_bindName (store_ok I3 hN hk (.inl hz) ru (fun s2 I4 => ?_) (.inr hz))))
  refine PyProof.Rows.assignInOrder_cons (wpAny_bindName (store_ok I4 hN hj (.inl hy) rw' (fun s3 I5 => ?_) (.inr hy)))
  refine PyProof.Rows.assignInOrder_cons (wpAny_bindName (store_ok I5 hN hi (.inl hx) rv (fun s4 I6 => PyProof.Rows.assignInOrder_nil (wpAny_pure ?_)) (.inr hx)))
  have e : ((σ.set k (some u)).set j (some w)).set i (some v) = setN σ [i, j, k] [v, w, u] := by
    show _ = ((σ.set i (some v)).set j (some w)).set k (some u)
    rw [List.set_comm _ _ hjk.symm, List.set_comm _ _ hik.symm, List.set_comm _ _ hij.symm]
  rw [e] at I6
  exact ⟨_, H1, I6, q1 _ _ (.refl sr2.fh)⟩
end
end PL

namespace PL
open PySem L2
/-! ## for -/
open Classical in
/-- the turns of a for: what is walked stays as it was -/
noncomputable def forL (o : Option (Nat × D)) (ok : Env → Prop) (g : D → Env → Option Env) (b : MS) : List D → MS
  | [] => fun env => if ok env then some (.ok .nx env) else none
  | d :: ds => fun env => if ok env then (match g d env with
    | some e => mTurn b (forL o ok g b ds) e
    | none => none) else none
noncomputable def mFor (it : M Src) (g : D → Env → Option Env) (b : MS) : MS := bnd it fun z => forL z.2 (Src.ok z) g b z.1
section
variable {K : PySem.W.Frag} {N : Ent} {W : Wish} {σ : L2.St} {F H : Hp} {env : Env}
theorem Ev.rep {F1 H1 : Hp} (s : SR K N F H σ env) (g : Grow F H F1 H1) : SR K N F1 H1 σ env := (Grow.ev s g).sr
theorem RunS.grow {m : MS} {D : L2.Ends} {F1 : Hp} (ff : Same F F1) (h : RunS K N W m F env D) : RunS K N W m F1 env D := by
  obtain ⟨r, q, h⟩ := h
  refine ⟨r, q, ?_⟩
  cases r with
  | ok fl e2 =>
    cases fl with
    | nx => exact fun F2 H2 σ2 s2 e2 => h F2 H2 σ2 s2 (ff.trans e2)
    | rt d => exact fun F2 H2 σ2 v s2 e2 r2 => h F2 H2 σ2 v s2 (ff.trans e2) r2
    | bk => exact fun F2 H2 σ2 s2 e2 => h F2 H2 σ2 s2 (ff.trans e2)
    | ct => exact fun F2 H2 σ2 s2 e2 => h F2 H2 σ2 s2 (ff.trans e2)
  | exc x e2 => exact h
end
section
variable {X : Cx} {N : Ent} {W : Wish} {tg iter : Expr} {body : List Stmt} {it : M Src} {is : List Nat} {g : D → Env → Option Env} {mb : MS} {pos : Pos}
theorem ss_for (hp : PassesOwn (model X.prog X.w) X.A X.env X.xe) (hc : X.calm = true) (hi : SI X N W tg iter it) (hg : SG X N is tg g) (hb : SSs X N W body mb) (hs : ∀ x, foldedSetIterable iter X.env x = pure x := by intro _; rfl) : SS X N W (.For tg iter body [] pos) (mFor it g mb) := PS.weak (ps_for hp hc hi hg hb hs) fun D σ H ⟨F, env, s, h⟩ => by
  refine ⟨F, env, s, (RunS.bnd h).mono fun z F1 H1 env1 v1 h1 J hJ => ?_⟩
  refine ⟨fun i m σ H => m + i = z.1.length ∧ ∃ F' env', SR X.K N F' H σ env' ∧ Same F1 F' ∧ RunS X.K N W (forL z.2 (Src.ok z) g mb (z.1.drop i)) F' env' D, ⟨z.1.length, by omega, F1, env1, v1.sr, fun _ _ q => q, by simpa using h1.2⟩, ?_⟩
  rintro i m σ' H' ⟨hm, F', env', s', ff, r, q, h⟩
  by_cases hl : i = z.1.length
  · subst hl
    rw [List.drop_length] at q
    simp only [forL] at q
    split at q
    · rename_i hk
      cases q
      exact .inl ⟨(hJ F' H' σ' env' s' ff hk).1, h F' H' σ' s' fun _ _ w => w⟩
    · cases q
  · have hlt : i < z.1.length := by omega
    have hd : z.1.drop i = z.1[i] :: z.1.drop (i + 1) := List.drop_eq_getElem_cons hlt
    rw [hd] at q
    simp only [forL] at q
    split at q
    · rename_i hk
      cases hg1 : g z.1[i] env' with
      | none => rw [hg1] at q; cases q
      | some e1 =>
        rw [hg1] at q
        simp only at q
        obtain ⟨w1, w2⟩ := hJ F' H' σ' env' s' ff hk
        obtain ⟨w3, w4⟩ := w2 i z.1[i] (List.getElem?_eq_getElem hlt)
        refine .inr ⟨w3, fun σ2 H2 => ∃ F2 env2, SR X.K N F2 H2 σ2 env2 ∧ Same F1 F2 ∧ RunS X.K N W (forL z.2 (Src.ok z) g mb (z.1.drop (i + 1))) F2 env2 D, fun σ2 H2 w => ⟨m - 1, by omega, by omega, w⟩, fun x H2 y => ?_⟩
        obtain ⟨F2, gr, rx⟩ := w4 x H2 y
        have s2 : SR X.K N F2 H2 σ' env' := Ev.rep s' gr
        refine ⟨F2, env', z.1[i], s2, rx, e1, hg1, fun σ3 s3 _ => ?_⟩
        have h' : RunS X.K N W (mTurn mb (forL z.2 (Src.ok z) g mb (z.1.drop (i + 1)))) F2 e1 D := RunS.grow gr.ff ⟨r, q, h⟩
        exact RunS.turn s3 h' fun F4 H4 σ4 env4 s4 f4 h4 => ⟨F4, env4, s4, (ff.trans gr.ff).trans f4, h4⟩
    · cases q
end
/-! ## comprehensions -/
def wipeE (env : Env) : List Nat → Env
  | [] => env
  | v :: vs => (wipeE env vs).set v .no
/-- the slots of a comprehension's own names as they were ahead of it -/
def unwipe (env0 env : Env) : List Nat → Env
  | [] => env
  | v :: vs => match env0[v]? with
    | some x => (unwipe env0 env vs).set v x
    | none => unwipe env0 env vs
def plainSl (env : Env) (v : Nat) : Bool := match env[v]? with
  | some .no => true
  | some (.fz _) => true
  | _ => false
/-- the turns of a comprehension -/
def lcL (g : D → Env → Option Env) (vs : List Nat) (t : M Bool) (m : ME) : List D → List D → Env → Option (List D × Env)
  | [], acc, env => some (acc, env)
  | d :: ds, acc, env => match g d env with
    | none => none
    | some e1 => match t e1 with
      | some (.ok true e2) => match mD m e2 with
        | some (.ok y e3) => if acc.length < sizeLine ∧ vs.all (plainSl e3) = true then lcL g vs t m ds (acc ++ [y]) (wipeE e3 vs) else none
        | _ => none
      | some (.ok false e2) => if vs.all (plainSl e2) = true then lcL g vs t m ds acc (wipeE e2 vs) else none
      | _ => none
def mLc (it : M Src) (g : D → Env → Option Env) (vs : List Nat) (t : M Bool) (m : ME) : ME := bnd it fun z env => if vs.all (plainSl env) = true then
  match z.2 with
  | some _ => none
  | none => match lcL g vs t m z.1 [] (wipeE env vs) with
    | some (acc, e) => some (.ok (.new (.lst acc)) (unwipe env e vs))
    | none => none
  else none
end PL

namespace PL
open PySem L2
section
variable {K : PySem.W.Frag} {N : Ent} {σ σ' : L2.St} {F H : Hp} {env env' : Env} {vs : List Nat}
theorem wipeE_length (env : Env) : ∀ vs : List Nat, (wipeE env vs).length = env.length
  | [] => rfl
  | v :: vs => by unfold wipeE; rw [List.length_set, wipeE_length env vs]
theorem wipeE_out {i : Nat} : ∀ {vs : List Nat}, i ∉ vs → (wipeE env vs)[i]? = env[i]?
  | [], _ => rfl
  | v :: vs, h => by
    have h1 : v ≠ i := fun e => h (by rw [e]; exact List.mem_cons_self)
    have h2 : i ∉ vs := fun m => h (List.mem_cons_of_mem _ m)
    unfold wipeE
    rw [List.getElem?_set_ne h1]
    exact wipeE_out h2
theorem wipeE_in {i : Nat} : ∀ {vs : List Nat}, i ∈ vs → ∀ x, (wipeE env vs)[i]? = some x → x = .no
  | v :: vs, h, x, q => by
    unfold wipeE at q
    by_cases hv : v = i
    · subst hv
      have lt : v < (wipeE env vs).length := by
        have := (List.getElem?_eq_some_iff.mp q).1
        rw [List.length_set] at this; exact this
      rw [List.getElem?_set_self lt] at q
      exact (Option.some.inj q).symm
    · rw [List.getElem?_set_ne hv] at q
      exact wipeE_in ((List.mem_cons.mp h).resolve_left (Ne.symm hv)) x q
theorem wipe_out' {i : Nat} (h : i ∉ vs) : (wipe σ vs)[i]? = σ[i]? := wipe_out h
theorem wipe_eq (h : Out is σ σ') (hs : ∀ j ∈ is, j ∈ vs) : wipe σ' vs = wipe σ vs := by
  apply List.ext_getElem?
  intro j
  by_cases hj : j ∈ vs
  · have key : ∀ (τ : L2.St) (ws : List Nat), j ∈ ws → (wipe τ ws)[j]? = if j < τ.length then some none else none := fun τ ws => by
      induction ws with
      | nil => intro h; cases h
      | cons w ws ih =>
        intro h
        unfold wipe
        by_cases hw : w = j
        · subst hw
          by_cases hl : w < τ.length
          · rw [List.getElem?_set_self (by rw [wipe_length]; exact hl), if_pos hl]
          · rw [if_neg hl, List.getElem?_eq_none (by rw [List.length_set, wipe_length]; omega)]
        · rw [List.getElem?_set_ne hw]
          exact ih ((List.mem_cons.mp h).resolve_left (Ne.symm hw))
    rw [key σ' vs hj, key σ vs hj, h.1]
  · rw [wipe_out hj, wipe_out hj]
    exact h.2 j fun z => hj (hs j z)
/-- plain slots are no owners -/
def Plain (vs : List Nat) (env : Env) : Prop := ∀ j ∈ vs, owned env[j]? = none
theorem plain_all (h : vs.all (plainSl env) = true) : Plain vs env := fun j hj => by
  have := List.all_eq_true.mp h j hj
  unfold plainSl at this
  cases q : env[j]? with
  | none => rfl
  | some x => rw [q] at this; cases x <;> first | rfl | cases this
theorem owner_wipe (p : Plain vs env) {a : Addr} : Owner (wipe σ vs) (wipeE env vs) a ↔ Owner σ env a := by
  constructor
  · rintro ⟨j, h1, h2⟩
    by_cases hj : j ∈ vs
    · obtain ⟨d, hd⟩ := Option.isSome_iff_exists.mp h1
      cases q : (wipeE env vs)[j]? with
      | none => rw [q] at hd; cases hd
      | some x => rw [q, wipeE_in hj x q] at hd; cases hd
    · rw [wipeE_out hj] at h1
      rw [wipe_out hj] at h2
      exact ⟨j, h1, h2⟩
  · rintro ⟨j, h1, h2⟩
    have hj : j ∉ vs := fun z => by rw [p j z] at h1; cases h1
    exact ⟨j, by rw [wipeE_out hj]; exact h1, by rw [wipe_out hj]; exact h2⟩
theorem SR.wiped (s : SR K N F H σ env) (p : Plain vs env) : SR K N F H (wipe σ vs) (wipeE env vs) := by
  have out : ∀ {j x}, (wipeE env vs)[j]? = some x → x ≠ .no → j ∉ vs := fun {j x} q n z => n (wipeE_in z x q)
  refine ⟨s.fh, by rw [wipeE_length, wipe_length]; exact s.len, fun j e q => ?_, fun j e q => ?_, fun j e q => ?_, fun p hp => ?_, fun j k b q1 q2 => ?_, s.st0, s.st1, s.st2, s.st3⟩
  · have hj := out q (fun z => nomatch z)
    rw [wipeE_out hj] at q
    rw [wipe_out hj]
    exact s.fz j e q
  · have hj := out q (fun z => nomatch z)
    rw [wipeE_out hj] at q
    rw [wipe_out hj]
    exact s.ow j e q
  · have hj := out q (fun z => nomatch z)
    rw [wipeE_out hj] at q
    rw [wipe_out hj]
    exact s.io j e q
  · rename_i p0
    obtain ⟨e, q1, q2⟩ := s.iok p hp
    have hj : p.1 ∉ vs := fun z => by have := p0 p.1 z; rw [q1] at this; cases this
    exact ⟨e, by rw [wipeE_out hj]; exact q1, by rw [wipe_out hj]; exact q2⟩
  · have go : ∀ k, OwnSl (wipe σ vs) (wipeE env vs) k b → OwnSl σ env k b := fun k ⟨h1, h2⟩ => by
      obtain ⟨d, hd⟩ := Option.isSome_iff_exists.mp h1
      have hk : k ∉ vs := fun z => by
        cases q : (wipeE env vs)[k]? with
        | none => rw [q] at hd; cases hd
        | some x => rw [q, wipeE_in z x q] at hd; cases hd
      rw [wipeE_out hk] at h1
      rw [wipe_out hk] at h2
      exact ⟨h1, h2⟩
    exact s.inj j k b (go j q1) (go k q2)
theorem unwipe_length (env0 env : Env) : ∀ vs : List Nat, (unwipe env0 env vs).length = env.length
  | [] => rfl
  | v :: vs => by
    unfold unwipe
    cases env0[v]? with
    | none => exact unwipe_length env0 env vs
    | some x => rw [List.length_set]; exact unwipe_length env0 env vs
theorem unwipe_out {env0 : Env} {i : Nat} : ∀ {vs : List Nat}, i ∉ vs → (unwipe env0 env vs)[i]? = env[i]?
  | [], _ => rfl
  | v :: vs, h => by
    have h1 : v ≠ i := fun e => h (by rw [e]; exact List.mem_cons_self)
    have h2 : i ∉ vs := fun m => h (List.mem_cons_of_mem _ m)
    unfold unwipe
    cases env0[v]? with
    | none => exact unwipe_out h2
    | some x => rw [List.getElem?_set_ne h1]; exact unwipe_out h2
theorem unwipe_in {env0 : Env} (hl : env.length = env0.length) {i : Nat} : ∀ {vs : List Nat}, i ∈ vs → (unwipe env0 env vs)[i]? = env0[i]?
  | v :: vs, h => by
    unfold unwipe
    by_cases hv : v = i
    · subst hv
      cases q : env0[v]? with
      | none =>
        have : env0.length ≤ v := List.getElem?_eq_none_iff.mp q
        simp only
        rw [List.getElem?_eq_none (by rw [unwipe_length]; omega)]
      | some x =>
        have lt : v < env0.length := (List.getElem?_eq_some_iff.mp q).1
        simp only
        rw [List.getElem?_set_self (by rw [unwipe_length]; omega)]
    · have h' := (List.mem_cons.mp h).resolve_left (Ne.symm hv)
      cases q : env0[v]? with
      | none => exact unwipe_in hl h'
      | some x => simp only; rw [List.getElem?_set_ne hv]; exact unwipe_in hl h'
/-- the names of a comprehension are as they were ahead of it -/
theorem Ev.unwiped {F1 H1 : Hp} (s : SR K N F H σ env) (p : Plain vs env) (v : Ev K N (wipe σ vs) F H (wipeE env vs) F1 H1 env') : Ev K N σ F H env F1 H1 (unwipe env env' vs) := by
  have hl : env'.length = env.length := by rw [v.sr.len, wipe_length, s.len]
  have ownE : ∀ {j : Nat}, j ∈ vs → owned env'[j]? = none := fun {j} hj => by
    cases q : owned env'[j]? with
    | none => rfl
    | some d =>
      obtain ⟨a, h1, _⟩ := v.sr.ownAt q
      have lt : j < σ.length := by
        have := (List.getElem?_eq_some_iff.mp h1).1
        rw [wipe_length] at this; exact this
      exact absurd h1 (fun z => (wipe_some z).2 hj)
  have ownU : ∀ {j : Nat}, owned (unwipe env env' vs)[j]? = owned env'[j]? := fun {j} => by
    by_cases hj : j ∈ vs
    · rw [unwipe_in hl hj, p j hj, ownE hj]
    · rw [unwipe_out hj]
  have slU : ∀ {j b}, OwnSl σ (unwipe env env' vs) j b → OwnSl (wipe σ vs) env' j b := fun {j b} ⟨h1, h2⟩ => by
    rw [ownU] at h1
    have hj : j ∉ vs := fun z => by rw [ownE z] at h1; cases h1
    exact ⟨h1, by rw [wipe_out hj]; exact h2⟩
  have iffO : ∀ {a}, Owner (wipe σ vs) (wipeE env vs) a ↔ Owner σ env a := fun {a} => owner_wipe p
  refine ⟨⟨v.sr.fh, by rw [unwipe_length, hl]; exact s.len, fun j e q => ?_, fun j e q => ?_, fun j e q => ?_, fun p0 hp => ?_, fun j k b q1 q2 => v.sr.inj j k b (slU q1) (slU q2), v.sr.st0, v.sr.st1, v.sr.st2, v.sr.st3⟩, v.ff, fun a o h n => v.k1 a o h fun z => n (iffO.mp z), fun a h f n => v.k2 a h f fun z => n (iffO.mp z), v.k3, fun a ⟨j, z⟩ => iffO.mp (v.k4 a ⟨j, slU z⟩), fun j e q => ?_, fun j e q => ?_⟩
  · by_cases hj : j ∈ vs
    · rw [unwipe_in hl hj] at q
      obtain ⟨x, q1, q2⟩ := s.fz j e q
      exact ⟨x, q1, q2.mono v.ff⟩
    · rw [unwipe_out hj] at q
      obtain ⟨x, q1, q2⟩ := v.sr.fz j e q
      rw [wipe_out hj] at q1
      exact ⟨x, q1, q2⟩
  · have hj : j ∉ vs := fun z => by have := @ownU j; rw [q, ownE z] at this; cases this
    rw [unwipe_out hj] at q
    obtain ⟨a, q1, q2⟩ := v.sr.ow j e q
    rw [wipe_out hj] at q1
    exact ⟨a, q1, q2⟩
  · have hj : j ∉ vs := fun z => by have := @ownU j; rw [q, ownE z] at this; cases this
    rw [unwipe_out hj] at q
    obtain ⟨a, q1, q2⟩ := v.sr.io j e q
    rw [wipe_out hj] at q1
    exact ⟨a, q1, q2⟩
  · obtain ⟨e, q1, q2⟩ := v.sr.iok p0 hp
    have hj : p0.1 ∉ vs := fun z => by have := ownE z; rw [q1] at this; cases this
    rw [wipe_out hj] at q2
    exact ⟨e, by rw [unwipe_out hj]; exact q1, q2⟩
  · by_cases hj : j ∈ vs
    · rw [unwipe_in hl hj]; exact q
    · rw [unwipe_out hj]
      exact v.k5 j e (by rw [wipeE_out hj]; exact q)
  · have hj : j ∉ vs := fun z => by have := p j z; rw [q] at this; cases this
    obtain ⟨d', w⟩ := v.k6 j e (by rw [wipeE_out hj]; exact q)
    exact ⟨d', by rw [unwipe_out hj]; exact w⟩
/-- a turn's run, seen from the wiped frame -/
theorem Ev.turned {σ2 : L2.St} {e1 e3 : Env} {F1 H1 : Hp} {is : List Nat} (s : SR K N F H (wipe σ vs) env) (o : Out is (wipe σ vs) σ2) (hs : ∀ j ∈ is, j ∈ vs) (hg : (∀ j : Nat, j ∉ is → e1[j]? = env[j]?) ∧ ∀ j : Nat, j ∈ is → owned e1[j]? = none)
    (v : Ev K N σ2 F H e1 F1 H1 e3) (p : Plain vs e3) : Ev K N (wipe σ vs) F H env F1 H1 (wipeE e3 vs) := by
  have ww : wipe σ2 vs = wipe σ vs := by
    rw [wipe_eq o hs]
    apply List.ext_getElem?
    intro j
    by_cases hj : j ∈ vs
    · have key : ∀ (τ : L2.St) (ws : List Nat), j ∈ ws → (wipe τ ws)[j]? = if j < τ.length then some none else none := fun τ ws => by
        induction ws with
        | nil => intro h; cases h
        | cons w ws ih =>
          intro h
          unfold wipe
          by_cases hw : w = j
          · subst hw
            by_cases hl : w < τ.length
            · rw [List.getElem?_set_self (by rw [wipe_length]; exact hl), if_pos hl]
            · rw [if_neg hl, List.getElem?_eq_none (by rw [List.length_set, wipe_length]; omega)]
          · rw [List.getElem?_set_ne hw]
            exact ih ((List.mem_cons.mp h).resolve_left (Ne.symm hw))
      rw [key _ vs hj, key σ vs hj, wipe_length]
    · rw [wipe_out hj]
  have own0 : ∀ {j : Nat}, j ∈ vs → owned env[j]? = none := fun {j} hj => by
    cases q : owned env[j]? with
    | none => rfl
    | some d =>
      obtain ⟨a, h1, _⟩ := s.ownAt q
      exact absurd h1 (fun z => (wipe_some z).2 hj)
  have own1 : ∀ {j : Nat}, j ∈ vs → owned e1[j]? = none := fun {j} hj => by
    by_cases hi : j ∈ is
    · exact hg.2 j hi
    · rw [hg.1 j hi]; exact own0 hj
  have iffO : ∀ {a}, Owner σ2 e1 a ↔ Owner (wipe σ vs) env a := fun {a} => by
    constructor
    · rintro ⟨j, h1, h2⟩
      have hj : j ∉ vs := fun z => by rw [own1 z] at h1; cases h1
      have hi : j ∉ is := fun z => hj (hs j z)
      exact ⟨j, by rw [← hg.1 j hi]; exact h1, by rw [← o.2 j hi]; exact h2⟩
    · rintro ⟨j, h1, h2⟩
      have hj : j ∉ vs := fun z => by rw [own0 z] at h1; cases h1
      have hi : j ∉ is := fun z => hj (hs j z)
      exact ⟨j, by rw [hg.1 j hi]; exact h1, by rw [o.2 j hi]; exact h2⟩
  refine ⟨ww ▸ v.sr.wiped p, v.ff, fun a o' h n => v.k1 a o' h fun z => n (iffO.mp z), fun a h f n => v.k2 a h f fun z => n (iffO.mp z), v.k3, fun a h => iffO.mp (v.k4 a ?_), fun j e q => ?_, fun j e q => ?_⟩
  · rw [← ww] at h
    exact (owner_wipe p).mp h
  · obtain ⟨x, q1, _⟩ := s.fz j e q
    have hj : j ∉ vs := (wipe_some q1).2
    rw [wipeE_out hj]
    exact v.k5 j e (by rw [hg.1 j (fun z => hj (hs j z))]; exact q)
  · have hj : j ∉ vs := fun z => by have := own0 z; rw [q] at this; cases this
    obtain ⟨d', w⟩ := v.k6 j e (by rw [hg.1 j (fun z => hj (hs j z))]; exact q)
    exact ⟨d', by rw [wipeE_out hj]; exact w⟩
end
end PL

namespace PL
open PySem L2
section
variable {K : PySem.W.Frag} {N : Ent} {W : Wish} {σ : L2.St} {F H : Hp} {env : Env} {vs is : List Nat} {g : D → Env → Option Env} {t : M Bool} {m : ME} {it : M Src}
theorem tmE_lc (hgk : GOk is g) (hsub : ∀ j ∈ is, j ∈ vs) {Q : VK} (h : tmE K N W (mLc it g vs t m) σ H Q) : tLc (tmI K N W it) (tmG K N is g) (tmT K N W0 t) (tmE K N W0 m) vs σ H Q := by
  obtain ⟨F, env, s, h⟩ := h
  refine ⟨F, env, s, h.bnd.mono fun z F1 H1 env1 v1 h1 J hJ Dd hD => ?_⟩
  obtain ⟨r, q, h1⟩ := h1
  simp only at q
  by_cases hp : vs.all (plainSl env1) = true
  · rw [if_pos hp] at q
    obtain ⟨ds, oo⟩ := z
    cases oo with
    | some _ => cases q
    | none =>
      simp only at q
      cases hq : lcL g vs t m ds [] (wipeE env1 vs) with
      | none => rw [hq] at q; cases q
      | some y =>
        obtain ⟨accE, eE⟩ := y
        rw [hq] at q
        cases q
        have pl : Plain vs env1 := plain_all hp
        have s0 : SR K N F1 H1 (wipe σ vs) (wipeE env1 vs) := v1.sr.wiped pl
        have hF1 : F1 Dd = none := v1.sr.fh.free hD
        refine ⟨fun i k H' => k + i = ds.length ∧ ∃ F' env' acc av, Ev K N (wipe σ vs) F1 H1 (wipeE env1 vs) F' H' env' ∧ H' Dd = some (.lst av) ∧ F' Dd = none ∧ RepL K F' av acc ∧ ¬ Owner (wipe σ vs) env' Dd ∧ lcL g vs t m (ds.drop i) acc env' = some (accE, eE),
          ⟨ds.length, by omega, F1, wipeE env1 vs, [], [], Grow.ev s0 (.made s0.fh hD), upd_same, hF1, .nil, s0.notOwner hD, by simpa using hq⟩, ?_⟩
        rintro i k H' ⟨hk, F', env', acc, av, ev, hL, hF, rL, nO, q⟩
        by_cases hl : i = ds.length
        · subst hl
          rw [List.drop_length] at q
          simp only [lcL] at q
          cases q
          refine .inl ⟨(hJ F' H' (wipe σ vs) eE ev.sr ev.ff trivial).1, ?_⟩
          have e2 : Ev K N σ F1 H1 env1 F' H' (unwipe env1 eE vs) := Ev.unwiped v1.sr pl ev
          have nO2 : ¬ Owner σ (unwipe env1 eE vs) Dd := fun z => (v1.sr.notOwner hD) (e2.k4 Dd z)
          have hD0 : H Dd = none := by
            cases w : H Dd with
            | none => rfl
            | some o => exact absurd hD (v1.k3 Dd (by rw [w]; exact fun z => nomatch z))
          exact (h1 F' H' e2 : PE_ K N σ H Q (.new (.lst accE)) F' H' _) (.ref Dd) ⟨Dd, rfl, ⟨hF, av, hL, rL⟩, v1.sr.fresh0 hD, nO2⟩ ⟨Dd, rfl, hD0⟩
        · have hlt : i < ds.length := by omega
          have hd : ds.drop i = ds[i] :: ds.drop (i + 1) := List.drop_eq_getElem_cons hlt
          rw [hd] at q
          simp only [lcL] at q
          cases hg1 : g ds[i] env' with
          | none => rw [hg1] at q; cases q
          | some e1 =>
            rw [hg1] at q
            simp only at q
            obtain ⟨w1, w2⟩ := hJ F' H' (wipe σ vs) env' ev.sr ev.ff trivial
            obtain ⟨w3, w4⟩ := w2 i ds[i] (List.getElem?_eq_getElem hlt)
            refine .inr ⟨w3, fun H2 => ∃ F2 env2 acc2 av2, Ev K N (wipe σ vs) F1 H1 (wipeE env1 vs) F2 H2 env2 ∧ H2 Dd = some (.lst av2) ∧ F2 Dd = none ∧ RepL K F2 av2 acc2 ∧ ¬ Owner (wipe σ vs) env2 Dd ∧ lcL g vs t m (ds.drop (i + 1)) acc2 env2 = some (accE, eE), fun H2 w => ⟨k - 1, by omega, by omega, w⟩, fun x H2 y => ?_⟩
            obtain ⟨F2, gr, rx⟩ := w4 x H2 y
            have eg : Ev K N (wipe σ vs) F' H' env' F2 H2 env' := Grow.ev ev.sr gr
            refine ⟨F2, env', ds[i], eg.sr, rx, e1, hg1, fun σ2 s2 o2 => ?_⟩
            have gk := hgk _ _ _ hg1
            have ww : wipe σ2 vs = wipe σ vs := by
              have z := Ev.turned (vs := vs) (e3 := e1) eg.sr o2 hsub gk (Ev.refl s2)
              rw [wipe_eq o2 hsub]
              apply List.ext_getElem?
              intro j
              by_cases hj : j ∈ vs
              · have key : ∀ (τ : L2.St) (ws : List Nat), j ∈ ws → (wipe τ ws)[j]? = if j < τ.length then some none else none := fun τ ws => by
                  induction ws with
                  | nil => intro h; cases h
                  | cons w ws ih =>
                    intro h
                    unfold wipe
                    by_cases hw : w = j
                    · subst hw
                      by_cases hl : w < τ.length
                      · rw [List.getElem?_set_self (by rw [wipe_length]; exact hl), if_pos hl]
                      · rw [if_neg hl, List.getElem?_eq_none (by rw [List.length_set, wipe_length]; omega)]
                    · rw [List.getElem?_set_ne hw]
                      exact ih ((List.mem_cons.mp h).resolve_left (Ne.symm hw))
                rw [key _ vs hj, key σ vs hj, wipe_length]
              · rw [wipe_out hj]
            refine ⟨ww, ?_⟩
            -- the list that is made stands through the turn
            have own1 : ∀ {a}, Owner σ2 e1 a → Owner (wipe σ vs) env' a := fun {a} ⟨j, z1, z2⟩ => by
              by_cases hi : j ∈ is
              · rw [gk.2 j hi] at z1; cases z1
              · exact ⟨j, by rw [← gk.1 j hi]; exact z1, by rw [← o2.2 j hi]; exact z2⟩
            have nO1 : ¬ Owner σ2 e1 Dd := fun z => nO (own1 z)
            have hL2 : H2 Dd = some (.lst av) := gr.hh Dd _ hL
            have hF2 : F2 Dd = none := gr.k2 Dd (by rw [hL]; exact fun z => nomatch z) hF
            have rL2 : RepL K F2 av acc := rL.mono gr.ff
            have fin : ∀ {F3 H3 e3}, Ev K N σ2 F2 H2 e1 F3 H3 e3 → Plain vs e3 → Ev K N (wipe σ vs) F1 H1 (wipeE env1 vs) F3 H3 (wipeE e3 vs) := fun {F3 H3 e3} v3 p3 => (ev.trans eg).trans (Ev.turned eg.sr o2 hsub gk v3 p3)
            cases ht : t e1 with
            | none => rw [ht] at q; cases q
            | some rt =>
              rw [ht] at q
              cases rt with
              | exc _ _ => cases q
              | ok b e2 =>
                refine ⟨F2, e1, s2, _, ht, fun F3 H3 v3 => ?_⟩
                have hL3 : H3 Dd = some (.lst av) := v3.k1 Dd _ hL2 nO1
                have hF3 : F3 Dd = none := v3.k2 Dd (by rw [hL2]; exact fun z => nomatch z) hF2 nO1
                cases b with
                | false =>
                  refine iteF ?_
                  simp only at q
                  by_cases hp2 : vs.all (plainSl e2) = true
                  · rw [if_pos hp2] at q
                    have e5 := fin v3 (plain_all hp2)
                    exact ⟨F3, wipeE e2 vs, acc, av, e5, hL3, hF3, rL2.mono v3.ff, fun z => (s0.notOwner hD) (e5.k4 Dd z), q⟩
                  · rw [if_neg hp2] at q; cases q
                | true =>
                  refine iteT ?_
                  simp only at q
                  cases hm : mD m e2 with
                  | none => rw [hm] at q; cases q
                  | some rm =>
                    rw [hm] at q
                    cases rm with
                    | exc _ _ => cases q
                    | ok y e3 =>
                      simp only at q
                      by_cases hc : acc.length < sizeLine ∧ vs.all (plainSl e3) = true
                      · rw [if_pos hc] at q
                        refine tmE_d (P := fun y' F4 H4 e4 => y' = y ∧ e4 = e3) v3.sr ⟨_, hm, fun F4 H4 v4 => ⟨rfl, rfl⟩⟩ fun y' F4 H4 e4 v v4 rr he => ?_
                        obtain ⟨rfl, rfl⟩ := he
                        have v34 := v3.trans v4
                        have hL4 : H4 Dd = some (.lst av) := v34.k1 Dd _ hL2 nO1
                        have hF4 : F4 Dd = none := v34.k2 Dd (by rw [hL2]; exact fun z => nomatch z) hF2 nO1
                        have rL4 := rL2.mono v34.ff
                        refine ⟨av, hL4, by rw [rL4.length]; exact hc.1, ?_⟩
                        have e5 := fin v34 (plain_all hc.2)
                        have nO5 : ¬ Owner (wipe σ vs) (wipeE e4 vs) Dd := fun z => (s0.notOwner hD) (e5.k4 Dd z)
                        refine ⟨F4, wipeE e4 vs, acc ++ [y'], av ++ [v], ?_, upd_same, hF4, rL4.snoc rr, nO5, q⟩
                        have s5 := e5.sr
                        have ne : ∀ b, b ≠ Dd → (upd H4 Dd (.lst (av ++ [v]))) b = H4 b := fun b hb => upd_ne hb
                        have nOw : ∀ j b, OwnSl (wipe σ vs) (wipeE e4 vs) j b → b ≠ Dd := fun j b z hb => nO5 ⟨j, hb ▸ z⟩
                        refine ⟨⟨fun b o z => by rw [ne b (fun w => by rw [w, hF4] at z; cases z)]; exact s5.fh b o z, s5.len, s5.fz, fun j e z => ?_, fun j e z => ?_, s5.iok, s5.inj, s5.st0, fun b o z n => ?_, s5.st2, fun b z => ?_⟩, e5.ff, fun b o z n => ?_, e5.k2, fun b z => ?_, e5.k4, e5.k5, e5.k6⟩
                        · obtain ⟨a, z1, z2, z3⟩ := s5.ow j e z
                          exact ⟨a, z1, z2.keep (fun _ _ w => w) z2.1 fun u w => by rw [ne a (nOw j a ⟨by rw [z]; rfl, z1⟩)]; exact w, z3⟩
                        · obtain ⟨a, z1, z2, z3⟩ := s5.io j e z
                          exact ⟨a, z1, z2.keep (fun _ _ w => w) z2.1 fun u w => by rw [ne a (nOw j a ⟨by rw [z]; rfl, z1⟩)]; exact w, z3⟩
                        · rw [ne b (fun w => by rw [w, v1.sr.fresh0 hD] at z; cases z)]; exact s5.st1 b o z n
                        · by_cases hb : b = Dd
                          · rw [hb, upd_same]; exact fun z => nomatch z
                          · rw [ne b hb]; exact s5.st3 b z
                        · rw [ne b (fun w => by rw [w, hD] at z; cases z)]; exact e5.k1 b o z n
                        · by_cases hb : b = Dd
                          · rw [hb, upd_same]; exact fun z => nomatch z
                          · rw [ne b hb]; exact e5.k3 b z
                      · rw [if_neg hc] at q; cases q
  · rw [if_neg hp] at q; cases q
end
/-- no test, one test -/
def mYes : M Bool := ret true
section
variable {X : Cx} {N : Ent} {W : Wish} {elt tg iter : Expr} {ifs : List Expr} {scope : Scope} {own : List (Str × Nat)} {pos : Pos} {it : M Src} {is vs : List Nat} {g : D → Env → Option Env} {t : M Bool} {m : ME}
abbrev STs (X : Cx) (N : Ent) (W : Wish) (ifs : List Expr) (t : M Bool) : Prop := PTs X ifs (tmT X.K N W t)
theorem PTs.weak {X : Cx} {e : List Expr} {t t' : TT} (h : PTs X e t) (w : ∀ σ H Q, t' σ H Q → t σ H Q) : PTs X e t' := ⟨fun pins s σ H Q I q => h.run pins s σ H Q I (w σ H Q q)⟩
theorem sts_nil : STs X N W [] mYes := PTs.weak pts_nil fun σ H Q ⟨F, env, s, h⟩ => Run.ret s h
theorem sts_one {c : Expr} (h : STt X N W c t) : STs X N W [c] t := pts_one h
theorem se_lc (hc : X.calm = true) (hN : X.N.Nodup) (hi : SI X N W tg iter it) (ok : BlkOk X.N X.env.scope scope own) (hgk : GOk is g)
    (hg : ∀ (s : Shared) (H : Hp) (C : Addr) (cl : List (Str × Addr)) (fp : List Addr), SG (X.blk s H scope (compEnvC scope cl C X.env) fp) N is tg g)
    (ht : ∀ (s : Shared) (H : Hp) (C : Addr) (cl : List (Str × Addr)) (fp : List Addr), STs (X.blk s H scope (compEnvC scope cl C X.env) fp) N W0 ifs t)
    (he : ∀ (s : Shared) (H : Hp) (C : Addr) (cl : List (Str × Addr)) (fp : List Addr), SE (X.blk s H scope (compEnvC scope cl C X.env) fp) N W0 elt m)
    (hsub : ∀ j ∈ is, j ∈ vs := by decide) (hvs : own.map (·.2) = vs := by rfl) (hs : ∀ x, foldedSetIterable iter X.env x = pure x := by intro _; rfl) : SE X N W (.ListComp elt [⟨tg, iter, ifs, 0⟩] scope pos) (mLc it g vs t m) := by
  subst hvs
  exact PE.weak (pe_lc hc hN hi ok hg ht he hs) fun σ H Q h => tmE_lc hgk hsub h
/-- name = [..] -/
theorem ss_setLc (i : Nat) {y : Str} {py spos : Pos} (hc : X.calm = true) (hN : X.N.Nodup)
    (hsw : swapsWith (.ListComp elt [⟨tg, iter, ifs, 0⟩] scope pos) (some (.Name y py)) spos.line X.env = pure true) (hi : SI X N W tg iter it) (ok : BlkOk X.N X.env.scope scope own) (hgk : GOk is g)
    (hg : ∀ (s : Shared) (H : Hp) (C : Addr) (cl : List (Str × Addr)) (fp : List Addr), SG (X.blk s H scope (compEnvC scope cl C X.env) fp) N is tg g)
    (ht : ∀ (s : Shared) (H : Hp) (C : Addr) (cl : List (Str × Addr)) (fp : List Addr), STs (X.blk s H scope (compEnvC scope cl C X.env) fp) N W0 ifs t)
    (he : ∀ (s : Shared) (H : Hp) (C : Addr) (cl : List (Str × Addr)) (fp : List Addr), SE (X.blk s H scope (compEnvC scope cl C X.env) fp) N W0 elt m)
    (hy : X.N[i]? = some y := by rfl) (hyl : X.env.scope.names.lookup y = some .local := by rfl)
    (hsub : ∀ j ∈ is, j ∈ vs := by decide) (hvs : own.map (·.2) = vs := by rfl) (hs : ∀ x, foldedSetIterable iter X.env x = pure x := by intro _; rfl) : SS X N W (.Assign [.Name y py] (.ListComp elt [⟨tg, iter, ifs, 0⟩] scope pos) spos) (mSet i (mLc it g vs t m)) := by
  subst hvs
  refine PS.weak (ps_setLc (g := tmG X.K N is g) (tt := tmT X.K N W0 t) (te := tmE X.K N W0 m) hc hN hy hyl hsw hi ok hg ht he hs) fun D σ H ⟨F, env, s, h⟩ => ?_
  refine tmE_lc (W := W) hgk hsub ⟨F, env, s, (RunS.bnd h).mono fun rv F1 H1 env1 v1 h1 x rx fx => ?_⟩
  obtain ⟨r, q, h2⟩ := h1.2
  simp only at q
  cases w : setSl env1 i rv with
  | none => rw [w] at q; cases q
  | some env2 =>
    rw [w] at q
    cases q
    obtain ⟨F2, e2, s2⟩ := set_ok (H0 := H) v1.sr rx w
    exact h2 F2 H1 _ s2 e2
end
end PL

namespace PL
open PySem L2
/-! ## x op= e; o[i] = e -/
/-- a name's plain datum, changed by an operator -/
def mAug (i : Nat) (f : D → D → Option Rz) (m : ME) : MS := fun env => match env[i]? with
  | some (.fz a) => (bnd (mD m) fun d => bnd (opt (f a d)) fun z => fun env => (setSl env i z.rv).map fun e => .ok .nx e) env
  | _ => none
def IpS (X : Cx) (op : Operator) (f : D → D → Option Rz) : Prop := ∃ r : TIp, PIp X op r ∧ ∀ F H x y a b z Q, Same F H → CRep X.K F H x a → CRep X.K F H y b → f a b = some z → Gives X.K F H z Q → r x y H Q
section
variable {X : Cx} {N : Ent} {W : Wish} {e o i : Expr} {m mi : ME} {pos tpos : Pos}
theorem ip_addF : IpS X .Add (fI0 fun i j => .int (i + j)) := ⟨_, ip_add, fun F H x y a b z Q e ra rb q gz => by
  cases a with
  | int i =>
    cases b with
    | int j => cases q; exact ⟨i, j, ra.int, rb.int, Gives.val gz e (.int _)⟩
    | _ => cases q
  | _ => cases q⟩
theorem ip_subF : IpS X .Sub (fI0 fun i j => .int (i - j)) := ⟨_, ip_sub, fun F H x y a b z Q e ra rb q gz => by
  cases a with
  | int i =>
    cases b with
    | int j => cases q; exact ⟨i, j, ra.int, rb.int, Gives.val gz e (.int _)⟩
    | _ => cases q
  | _ => cases q⟩
theorem ss_aug (i : Nat) {x : Str} {op : Operator} {pos' : Pos} {f : D → D → Option Rz} (hN : X.N.Nodup) (he : SE X N W e m) (ho : IpS X op f) (hi : X.N[i]? = some x := by rfl) (hx : Loc X.env.scope x := by first | exact .inl rfl | exact .inr rfl)
    (hf : X.fn x = true ∨ X.env.scope.names.lookup x = some .local := by first | exact .inl rfl | exact .inr rfl | assumption) : SS X N W (.AugAssign (.Name x pos') op e pos) (mAug i f m) := by
  obtain ⟨r, h1, h2⟩ := ho
  refine PS.weak (ps_aug hN hi hx he h1 hf) fun D σ H ⟨F, env, s, h⟩ => ?_
  obtain ⟨rr, q, h⟩ := h
  unfold mAug at q
  cases w : env[i]? with
  | none => rw [w] at q; cases q
  | some y =>
    rw [w] at q
    cases y with
    | fz a =>
      simp only at q
      obtain ⟨v, e1, e2⟩ := s.fz i a w
      refine ⟨v, e1, tmE_d s (RunS.bnd (⟨rr, q, h⟩ : RunS X.K N W _ F env D)) fun d F1 H1 env1 v1 ev rd hq => ?_⟩
      obtain ⟨r2, q2, h3⟩ := hq.2
      unfold bnd opt at q2
      cases q3 : f a d with
      | none => simp only [q3, Option.map] at q2; cases q2
      | some z =>
        simp only [q3, Option.map] at q2
        cases q4 : setSl env1 i z.rv with
        | none => simp only [q4] at q2; cases q2
        | some env2 =>
          simp only [q4] at q2
          cases q2
          refine h2 F1 H1 v v1 a d z _ ev.sr.fh (.inl (e2.mono ev.ff)) (.inl rd) q3 ?_
          obtain ⟨b, dd⟩ := z
          cases b with
          | false =>
            intro u F2 H2 gr ru
            have ev2 := Grow.ev ev.sr gr
            obtain ⟨F3, e3, s3⟩ := set_ok (H0 := H) ev2.sr (rv := .val dd) ru q4
            exact h3 F3 H2 _ s3 (gr.ff.trans e3)
          | true =>
            intro u F2 H2 gr ou hu
            have ev2 := Grow.ev ev.sr gr
            obtain ⟨F3, e3, s3⟩ := set_ok (H0 := H) ev2.sr (rv := .new dd) (v := .ref u) ⟨u, rfl, ou, ev.sr.fresh0 hu, ev.sr.notOwner hu⟩ q4
            exact h3 F3 H2 _ s3 (gr.ff.trans e3)
    | _ => cases q
/-- a list's place -/
def setF (y k : D) : D → Option (D × D)
  | .lst ds => match k with
    | .int k => (ixN ds.length k).map fun j => (.non, .lst (ds.set j y))
    | _ => none
  | _ => none
def mSetIx (i : Nat) (mi m : ME) : MS := bnd (mD m) fun y => fun env => match owned env[i]? with
  | some _ => bnd mi (fun rk => fun env => match content rk env with
    | some k => (bnd (mMut i (setF y k)) fun _ => ret .nx) env
    | none => none) env
  | none => none
theorem ss_setIx (j : Nat) {x : Str} {xpos : Pos} (hv : PE X (.Name x xpos) (tVar j)) (hi : SE X N W i mi) (he : SE X N W e m) (hs : swapsWithSole [.Subscript (.Name x xpos) i tpos] e pos.line X.env = pure false := by rfl) (hw : swappedStores [.Subscript (.Name x xpos) i tpos] e X.env = pure none := by rfl)
    (h1 : (assignEach [.Subscript (.Name x xpos) i tpos] X.env).map (·.2) = [assign (.Subscript (.Name x xpos) i tpos) X.env] := by rfl)
    (ha : ∀ v, assign (.Subscript (.Name x xpos) i tpos) X.env v = (do
      let ov ← holding [v] (eval (.Name x xpos) X.env)
      let iv ← holding [v, ov] (eval i X.env)
      standAt tpos
      holding [v, ov, iv] (setItem ov iv v)
      release [v, ov, iv] []) := by intro _; rfl) : SS X N W (.Assign [.Subscript (.Name x xpos) i tpos] e pos) (mSetIx j mi m) :=
  PS.weak (ps_asg he (pg_sub hv hi set_list ha) hs hw h1) fun D σ H ⟨F, env, s, h⟩ => by
  refine tmE_d s (RunS.bnd h) fun y F1 H1 env1 v ev ry hq => ?_
  obtain ⟨r0, q0, h0⟩ := hq.2
  simp only at q0
  cases w0 : owned env1[j]? with
  | none => rw [w0] at q0; cases q0
  | some d0 =>
  rw [w0] at q0
  simp only at q0
  obtain ⟨a, z1, _, _⟩ := ev.sr.ownAt w0
  have h2 := (RunS.bnd (H := H1) (σ := σ) (⟨r0, q0, h0⟩ : RunS X.K N W _ F1 env1 D))
  refine ⟨_, z1, F1, env1, ev.sr, h2.mono fun rk F2 H2 env2 v2 hq2 k' rk' fk => ?_⟩
  obtain ⟨r3, q3, h3⟩ := hq2.2
  simp only at q3
  cases w : content rk env2 with
  | none => rw [w] at q3; cases q3
  | some k =>
    rw [w] at q3
    simp only at q3
    unfold mMut bnd at q3
    cases w2 : owned env2[j]? with
    | none => simp only [w2] at q3; cases q3
    | some d =>
      simp only [w2] at q3
      cases w3 : setF y k d with
      | none => simp only [w3] at q3; cases q3
      | some yy =>
        obtain ⟨rr, d'⟩ := yy
        simp only [w3] at q3
        cases q3
        unfold setF at w3
        cases d with
        | lst ds =>
          cases k with
          | int k =>
            simp only at w3
            cases w4 : ixN ds.length k with
            | none => rw [w4] at w3; cases w3
            | some jj =>
              rw [w4] at w3
              cases w3
              obtain ⟨a', y1, y2, y3⟩ := v2.sr.ownAt w2
              rw [z1] at y1; cases y1
              obtain ⟨n, xs, z4, z5⟩ := y2
              have ev3 := v2.sr.write (d' := .lst (ds.set jj y)) (o' := .lst (xs.set jj v)) w2 z1 ⟨n, _, upd_same, (z5.set (ry.mono v2.ff) jj)⟩
              exact ⟨a, xs, k, jj, rfl, (rk'.content v2.sr w).int, z4, by rw [z5.length]; exact w4, h3 F2 _ σ ev3.sr fun _ _ z => z⟩
          | _ => cases w3
        | _ => cases w3
end
/-! ## a def -/
def plainArg : Sl → Bool
  | .fz _ => true
  | .io _ => true
  | _ => false
/-- of k parameters, n names; lets no exception out -/
def semFn (k n : Nat) (m : MS) : Sem' := fun args => if args.length = k ∧ args.all plainArg = true ∧ k ≤ n then
  match m (args ++ List.replicate (n - k) .no) with
  | some (.ok (.rt z) e) => some (.ok z (e.take k))
  | some (.ok .nx e) => some (.ok (false, .non) (e.take k))
  | _ => none else none
/-- the handed objects -/
def handed (args : List Sl) (vs : List V) : List (Nat × Addr) := (List.range args.length).filterMap fun (i : Nat) => match args[i]?, vs[i]? with
  | some (.io _), some (.ref a) => some (i, a)
  | _, _ => none
theorem mem_handed {args : List Sl} {vs : List V} {p : Nat × Addr} : p ∈ handed args vs ↔ ∃ d, args[p.1]? = some (.io d) ∧ vs[p.1]? = some (.ref p.2) := by
  unfold handed
  rw [List.mem_filterMap]
  constructor
  · rintro ⟨i, hi, h⟩
    cases q : args[i]? with
    | none => rw [q] at h; cases h
    | some x =>
      cases q2 : vs[i]? with
      | none => rw [q, q2] at h; cases x <;> cases h
      | some v =>
        rw [q, q2] at h
        cases x <;> cases v <;> first | cases h | skip
        rename_i d a
        exact ⟨d, q, q2⟩
  · rintro ⟨d, h1, h2⟩
    refine ⟨p.1, List.mem_range.mpr (List.getElem?_eq_some_iff.mp h1).1, ?_⟩
    rw [h1, h2]
theorem sr_start {K : PySem.W.Frag} {F H : Hp} {args : List Sl} {vs : List V} (a : ArgsR K F H args vs) (Ns : List Str) : SR K ⟨F, H, handed args vs⟩ F H (L2.start Ns vs) (args ++ List.replicate (Ns.length - args.length) .no) := by
  have st : ∀ i : Nat, i < vs.length → (L2.start Ns vs)[i]? = (vs[i]?).map some := fun i hi => by
    unfold L2.start
    rw [List.getElem?_append_left (by rw [List.length_map]; exact hi), List.getElem?_map]
  have ar : ∀ {i : Nat} {x : Sl}, (args ++ List.replicate (Ns.length - args.length) Sl.no)[i]? = some x → x ≠ .no → args[i]? = some x := fun {i x} h n => by
    by_cases hi : i < args.length
    · rw [List.getElem?_append_left hi] at h; exact h
    · rw [List.getElem?_append_right (by omega)] at h
      exact absurd (List.eq_of_mem_replicate (List.mem_of_getElem? h)) n
  have lt : ∀ {i : Nat} {x : Sl}, args[i]? = some x → i < vs.length := fun {i x} h => by rw [← a.len]; exact (List.getElem?_eq_some_iff.mp h).1
  refine ⟨a.fh, by simp [L2.start, a.len], fun i d h => ?_, fun i d h => ?_, fun i d h => ?_, fun p hp => ?_, fun i j b h1 h2 => ?_, fun _ _ z => z, fun _ _ h _ => h, fun _ _ h => h, fun _ h => h⟩
  · have h' := ar h (fun z => nomatch z)
    obtain ⟨v, w1, w2⟩ := a.fz i d h'
    exact ⟨v, by rw [st i (lt h'), w1]; rfl, w2⟩
  · have h' := ar h (fun z => nomatch z)
    rcases a.no i _ h' with ⟨_, z⟩ | ⟨_, z⟩ <;> cases z
  · have h' := ar h (fun z => nomatch z)
    obtain ⟨b, w1, w2⟩ := a.io i d h'
    exact ⟨b, by rw [st i (lt h'), w1]; rfl, w2, mem_handed.mpr ⟨d, h', w1⟩⟩
  · obtain ⟨d, w1, w2⟩ := mem_handed.mp hp
    exact ⟨d, by rw [List.getElem?_append_left (List.getElem?_eq_some_iff.mp w1).1]; exact w1, by rw [st _ (lt w1), w2]; rfl⟩
  · have go : ∀ k, OwnSl (L2.start Ns vs) (args ++ List.replicate (Ns.length - args.length) Sl.no) k b → ∃ d, args[k]? = some (.io d) ∧ vs[k]? = some (.ref b) := fun k ⟨w1, w2⟩ => by
      cases q : (args ++ List.replicate (Ns.length - args.length) Sl.no)[k]? with
      | none => rw [q] at w1; cases w1
      | some x =>
        rw [q] at w1
        cases x with
        | no => cases w1
        | fz _ => cases w1
        | ow d =>
          have h' := ar q (fun z => nomatch z)
          rcases a.no k _ h' with ⟨_, z⟩ | ⟨_, z⟩ <;> cases z
        | io d =>
          have h' := ar q (fun z => nomatch z)
          rw [st k (lt h')] at w2
          cases q2 : vs[k]? with
          | none => rw [q2] at w2; cases w2
          | some v => rw [q2] at w2; cases w2; exact ⟨d, h', rfl⟩
    obtain ⟨d, z1, z2⟩ := go i h1
    obtain ⟨e, z3, z4⟩ := go j h2
    exact a.inj i j b d e z1 z3 z2 z4
theorem callP_of {K : PySem.W.Frag} {F H F' H' : Hp} {args : List Sl} {vs : List V} {Ns : List Str} {σ' : L2.St} {env' : Env} (a : ArgsR K F H args vs) (hl : args.length ≤ Ns.length) (s : SR K ⟨F, H, handed args vs⟩ F' H' σ' env') : CallP K F H args vs F' H' (env'.take args.length) where
  ff := s.st0
  fh := s.fh
  io := fun i d h => by
    obtain ⟨b, w1, w2⟩ := a.io i d h
    obtain ⟨d', z1, z2⟩ := s.iok (i, b) (mem_handed.mpr ⟨d, h, w1⟩)
    obtain ⟨b', y1, y2, _⟩ := s.io i d' z1
    rw [z2] at y1
    cases y1
    exact ⟨b, d', w1, by rw [List.getElem?_take_of_lt (List.getElem?_eq_some_iff.mp h).1]; exact z1, y2⟩
  k1 := fun b o h n => s.st1 b o h fun p hp e => by
    obtain ⟨d, w1, w2⟩ := mem_handed.mp hp
    exact n p.1 d w1 (by rw [w2, e])
  k2 := fun b h f => s.st2 b h f
  k3 := fun b h => s.st3 b h
section
variable {P : Program} {w : World} {K : PySem.W.Frag} {mg : Str → Option Value} {base : Heap}
/-- THE RULE for a def that lets no exception out -/
theorem def_ok {x qual : Str} {st : Stmt} {f : Addr} {fd : FuncData} {Ns ps : List Str} {k : Nat} {R : XRel} {m : MS} {sem : Sem'} (F : L2.Fun K x qual st f fd) (S : FnScope Ns ps (defScope st)) (hsem : sem = semFn ps.length Ns.length m)
    (body : ∀ (cdv : Value) (A : Around) (outer : List PySem.Env) (s : Shared) (H : Hp) (E : XK) (N : Ent), Room k (A.deeper (PyProof.Rows.envOfC qual (defScope st) s.heap.objs.size f cdv)) →
      SSs (cxOf CX0 P w K mg base Ns qual (defScope st) f cdv A outer s H E).nox N W0 (defBody st) m) :
    FnOk P w K mg base CX0 (k + 1) f fd ps (spM K R sem) := by
  subst hsem
  refine F.ok S (fun vs H Q E h => ?_) (fun cdv A outer s H vs Q E hr h => ?_)
  · obtain ⟨F, args, a, r, q, _⟩ := h
    unfold semFn at q
    split at q
    · rename_i hl; rw [← a.len]; exact hl.1
    · cases q
  · obtain ⟨F, args, a, r, q, h⟩ := h
    unfold semFn at q
    split at q
    · rename_i hl
      obtain ⟨h1, h2, h3⟩ := hl
      refine ⟨_, body cdv A outer s H E ⟨F, H, handed args vs⟩ hr, F, _, sr_start a Ns, ?_⟩
      rw [h1]
      cases w0 : m (args ++ List.replicate (Ns.length - ps.length) Sl.no) with
      | none => rw [w0] at q; cases q
      | some z =>
        rw [w0] at q
        refine ⟨z, w0, ?_⟩
        have hc : args.length ≤ Ns.length := by omega
        cases z with
        | ok fl e =>
          cases fl with
          | nx => cases q; rw [← h1] at h; exact fun F' H' σ' s' _ => h F' H' .non (callP_of (Ns := Ns) a hc s') .non
          | rt z => cases q; rw [← h1] at h; exact fun F' H' σ' v s' _ rr => h F' H' v (callP_of (Ns := Ns) a hc s') rr
          | bk => cases q
          | ct => cases q
        | exc x e => cases q
    · cases q
/-! ## the law itself -/
/-- a law that is told True at every script of at most 63 ints -/
theorem law_ok {f : Addr} {fd : FuncData} {k : Nat} {R : XRel} {sem : Sem'} {x : Str} (F : FnOk P w K mg base CX0 k f fd [x] (spM K R sem)) (h : ∀ ns : List Int, ns.length ≤ 63 → ∃ e, sem [.fz (.rol (ns.map D.int))] = some (.ok (false, .bl true) e)) :
    FnOk P w K mg base CX0 k f fd [x] (fun vs H Q _ => ∃ (a : Addr) (ns : List Int), vs = [.ref a] ∧ SqL K H a (ns.map V.int) ∧ ns.length ≤ 63 ∧ ∀ H', Q (.bl true) H') :=
  F.imp fun vs H Q E ⟨a, ns, e1, hS, hl, q⟩ => by
    subst e1
    obtain ⟨e, he⟩ := h ns hl
    refine ⟨H, [.fz (.rol (ns.map D.int))], ⟨fun _ _ z => z, rfl, fun i d q => ?_, fun i d q => ?_, fun i y q => ?_, fun i j b d e q _ _ _ => ?_⟩, _, he, fun F' H' v c rr => ?_⟩
    · cases i with
      | zero => cases q; exact ⟨_, rfl, .rol hS (RepL.of_ints ns)⟩
      | succ i => simp at q
    · cases i with
      | zero => cases q
      | succ i => simp at q
    · cases i with
      | zero => cases q; exact .inl ⟨_, rfl⟩
      | succ i => simp at q
    · cases i with
      | zero => cases q
      | succ i => simp at q
    · cases rr
      exact q H'
end
section
variable {X : Cx} {N : Ent} {W : Wish}
theorem se_negc {i : Int} {j pos pos'} : SE X N W (.UnaryOp .USub (.Constant (.int i) j pos) pos') (mC (.int (-i))) := se_c (v := .int (-i)) (PE.weak (pe_un un_neg pe_int) fun σ H Q h => ⟨i, rfl, h⟩) fun _ => .int _
theorem se_gintX {x : Str} {i : Int} {pos : Pos} (hg : Gl X x) (hm : ∃ t, X.mg x = some (.int i t)) (hd : (x == ("__debug__" : Str)) = false := by decide) : SE X N W (.Name x pos) (mC (.int i)) := by
  obtain ⟨t, hm⟩ := hm
  exact se_gint hg hm hd
theorem se_gstrX {x : Str} {i : Str} {pos : Pos} (hg : Gl X x) (hm : ∃ t, X.mg x = some (.str i t)) (hd : (x == ("__debug__" : Str)) = false := by decide) : SE X N W (.Name x pos) (mC (.str i)) := by
  obtain ⟨t, hm⟩ := hm
  exact se_gstr hg hm hd
end
end PL

/-! PL: evaluation of semantic terms. -/
namespace PL
open PySem L2
/-! ### loops over what stands still -/
def forF (g : D → Env → Option Env) (b : MS) : List D → MS
  | [] => fun env => some (.ok .nx env)
  | d :: ds => fun env => match g d env with
    | some e => mTurn b (forF g b ds) e
    | none => none
theorem forL_none (ds0 : List D) (g : D → Env → Option Env) (b : MS) : ∀ ds, forL none (Src.ok (ds0, none)) g b ds = forF g b ds
  | [] => by
    funext env
    simp only [forL, forF]
    rw [if_pos (show Src.ok (ds0, none) env from trivial)]
  | d :: ds => by
    funext env
    simp only [forL, forF]
    rw [if_pos (show Src.ok (ds0, none) env from trivial), forL_none ds0 g b ds]
    all_goals (cases g d env <;> rfl)
theorem mFor_eq {it : M Src} {g : D → Env → Option Env} {b : MS} {env e : Env} {ds : List D} (h : it env = some (.ok (ds, none) e)) : mFor it g b env = forF g b ds e := by
  unfold mFor bnd
  rw [h]
  show forL none (Src.ok (ds, none)) g b ds e = _
  rw [forL_none]
/-! ### evaluation, one rule a construct: nothing is opened before its turn -/
def bndR {α β : Type} (r : Option (Res α)) (f : α → M β) : Option (Res β) := match r with
  | none => none
  | some (.exc x e) => some (.exc x e)
  | some (.ok a e) => f a e
section
variable {α β : Type} {env e : Env} {f : D → D → Option Rz} {g : D → Option Rz} {ma mb mc : ME} {t u v : M Bool} {i : Nat} {d d' : D} {rv ra rb : Rv} {sa sb : MS}
theorem bndR_ok {a : α} {k : α → M β} : bndR (some (.ok a e)) k = k a e := rfl
theorem bndR_none {k : α → M β} : bndR none k = none := rfl
theorem bnd_ap {m : M α} {k : α → M β} : bnd m k env = bndR (m env) k := rfl
theorem ret_ap {a : α} : ret a env = some (.ok a env) := rfl
theorem stuck_ap : (stuck : M α) env = none := rfl
-- names, constants
def kVar (i : Nat) : Option Sl → Env → Option (Res Rv)
  | some (.fz d), env => some (.ok (.val d) env)
  | some (.ow _), env => some (.ok (.bor i) env)
  | some (.io _), env => some (.ok (.bor i) env)
  | _, _ => none
theorem mVar_ap : mVar i env = kVar i env[i]? env := by unfold mVar kVar; cases env[i]? with | none => rfl | some x => cases x <;> rfl
theorem kVar_fz : kVar i (some (.fz d)) env = some (.ok (.val d) env) := rfl
theorem kVar_ow : kVar i (some (.ow d)) env = some (.ok (.bor i) env) := rfl
theorem kVar_io : kVar i (some (.io d)) env = some (.ok (.bor i) env) := rfl
theorem mC_ap : mC d env = some (.ok (.val d) env) := rfl
-- contents
def slD : Option Sl → Option D
  | some (.fz d) => some d
  | some (.ow d) => some d
  | some (.io d) => some d
  | _ => none
theorem content_val : content (.val d) env = some d := rfl
theorem content_new : content (.new d) env = some d := rfl
theorem content_bor : content (.bor i) env = slD env[i]? := by unfold content slD; simp only; all_goals (cases env[i]? with | none => rfl | some x => cases x <;> rfl)
theorem slD_fz : slD (some (.fz d)) = some d := rfl
theorem slD_ow : slD (some (.ow d)) = some d := rfl
theorem slD_io : slD (some (.io d)) = some d := rfl
theorem rv_f : Rz.rv (false, d) = .val d := rfl
theorem rv_t : Rz.rv (true, d) = .new d := rfl
theorem val_eq : val d = some (false, d) := rfl
theorem new_eq : new d = some (true, d) := rfl
def kRz : Option Rz → Env → Option (Res Rv)
  | some z, env => some (.ok z.rv env)
  | none, _ => none
theorem kRz_some {z : Rz} : kRz (some z) env = some (.ok z.rv env) := rfl
theorem kRz_none : kRz none env = none := rfl
def kP1 (g : D → Option Rz) : Option D → Env → Option (Res Rv)
  | some a, env => kRz (g a) env
  | none, _ => none
theorem kP1_some : kP1 g (some d) env = kRz (g d) env := rfl
theorem prim1_ap : prim1 g ra env = kP1 g (content ra env) env := by
  unfold prim1 kP1
  cases content ra env with
  | none => rfl
  | some a => simp only; cases g a <;> rfl
def kP2 (f : D → D → Option Rz) : Option D → Option D → Env → Option (Res Rv)
  | some a, some b, env => kRz (f a b) env
  | _, _, _ => none
theorem kP2_some : kP2 f (some d) (some d') env = kRz (f d d') env := rfl
theorem prim2_ap : prim2 f ra rb env = kP2 f (content ra env) (content rb env) env := by
  unfold prim2 kP2
  cases content ra env with
  | none => rfl
  | some a => cases content rb env with
    | none => rfl
    | some b => simp only; cases f a b <;> rfl
-- operators
def kBin (f : D → D → Option Rz) (mb : ME) (ra : Rv) : ME := bnd mb fun rb => prim2 f ra rb
def kBin2 (f : D → D → Option Rz) (ra rb : Rv) : ME := prim2 f ra rb
theorem mBin_ap : mBin f ma mb env = bndR (ma env) (kBin f mb) := rfl
theorem kBin_ap : kBin f mb ra env = bndR (mb env) (kBin2 f ra) := rfl
theorem kBin2_ap : kBin2 f ra rb env = kP2 f (content ra env) (content rb env) env := prim2_ap
def kUn (g : D → Option Rz) (ra : Rv) : ME := prim1 g ra
theorem mUn_ap : mUn g ma env = bndR (ma env) (kUn g) := rfl
theorem kUn_ap : kUn g ra env = kP1 g (content ra env) env := prim1_ap
-- tests
def kTest : Rv → M Bool := fun rv => match rv with
  | .val (.bl k) => ret k
  | _ => stuck
theorem mTest_ap : mTest ma env = bndR (ma env) kTest := rfl
theorem kTest_ap {k : Bool} : kTest (.val (.bl k)) env = some (.ok k env) := rfl
def kTru : Option D → Env → Option (Res Bool)
  | some d, env => (truD d).map fun k => .ok k env
  | none, _ => none
def kTruth (rv : Rv) : M Bool := fun env => kTru (content rv env) env
theorem mTruth_ap : mTruth ma env = bndR (ma env) kTruth := by
  unfold mTruth bnd bndR
  cases ma env with
  | none => rfl
  | some r => cases r with
    | exc _ _ => rfl
    | ok a e => simp only [kTruth, kTru]; cases content a e <;> rfl
theorem kTruth_ap : kTruth rv env = kTru (content rv env) env := rfl
theorem kTru_some : kTru (some d) env = (truD d).map fun k => .ok k env := rfl
def kNot (k : Bool) : M Bool := ret (!k)
theorem mNotT_ap : mNotT t env = bndR (t env) kNot := rfl
theorem kNot_ap {k : Bool} : kNot k env = some (.ok (!k) env) := rfl
def kAnd (u : M Bool) (k : Bool) : M Bool := if k then u else ret false
def kOr (u : M Bool) (k : Bool) : M Bool := if k then ret true else u
theorem mAndT_ap : mAndT t u env = bndR (t env) (kAnd u) := rfl
theorem mOrT_ap : mOrT t u env = bndR (t env) (kOr u) := rfl
theorem kAnd_t : kAnd u true env = u env := rfl
theorem kAnd_f : kAnd u false env = some (.ok false env) := rfl
theorem kOr_t : kOr u true env = some (.ok true env) := rfl
theorem kOr_f : kOr u false env = u env := rfl
def kIf {α : Type} (a b : M α) (k : Bool) : M α := if k then a else b
theorem mIf_ap : mIf t ma mb env = bndR (t env) (kIf ma mb) := rfl
theorem mIte_ap : mIte t sa sb env = bndR (t env) (kIf sa sb) := rfl
theorem kIf_t {a b : M α} : kIf a b true env = a env := rfl
theorem kIf_f {a b : M α} : kIf a b false env = b env := rfl
def kAndV (mb : ME) : Rv → ME := fun rv => match rv with
  | .val (.bl k) => if k then mb else ret (.val (.bl false))
  | _ => stuck
def kOrV (mb : ME) : Rv → ME := fun rv => match rv with
  | .val (.bl k) => if k then ret (.val (.bl true)) else mb
  | _ => stuck
theorem mAndV_ap : mAndV ma mb env = bndR (ma env) (kAndV mb) := rfl
theorem mOrV_ap : mOrV ma mb env = bndR (ma env) (kOrV mb) := rfl
theorem kAndV_t : kAndV mb (.val (.bl true)) env = mb env := rfl
theorem kAndV_f : kAndV mb (.val (.bl false)) env = some (.ok (.val (.bl false)) env) := rfl
theorem kOrV_t : kOrV mb (.val (.bl true)) env = some (.ok (.val (.bl true)) env) := rfl
theorem kOrV_f : kOrV mb (.val (.bl false)) env = mb env := rfl
-- chains
def kLink (k : ME) : Rv → ME := fun z => match z with
  | .val (.bl true) => k
  | .val (.bl false) => ret (.val (.bl false))
  | _ => stuck
def kCh1 (f g : D → D → Option Rz) (mb mc : ME) (ra : Rv) : ME := bnd mb fun rb => mLink f ra rb (bnd mc fun rc => prim2 g rb rc)
def kCh2 (f g : D → D → Option Rz) (mc : ME) (ra rb : Rv) : ME := mLink f ra rb (bnd mc fun rc => prim2 g rb rc)
def kCh3 (g : D → D → Option Rz) (mc : ME) (rb : Rv) : ME := bnd mc fun rc => prim2 g rb rc
theorem mChain_ap {f g : D → D → Option Rz} : mChain f g ma mb mc env = bndR (ma env) (kCh1 f g mb mc) := rfl
theorem kCh1_ap {f g : D → D → Option Rz} : kCh1 f g mb mc ra env = bndR (mb env) (kCh2 f g mc ra) := rfl
theorem kCh2_ap {f g : D → D → Option Rz} : kCh2 f g mc ra rb env = bndR (kP2 f (content ra env) (content rb env) env) (kLink (kCh3 g mc rb)) := by rw [← prim2_ap]; rfl
theorem kCh3_ap {g : D → D → Option Rz} : kCh3 g mc rb env = bndR (mc env) (kBin2 g rb) := rfl
theorem kLink_t {k : ME} : kLink k (.val (.bl true)) env = k env := rfl
theorem kLink_f {k : ME} : kLink k (.val (.bl false)) env = some (.ok (.val (.bl false)) env) := rfl
def kC31 (f g h : D → D → Option Rz) (mb mc md : ME) (ra : Rv) : ME := bnd mb fun rb => mLink f ra rb (bnd mc fun rc => mLink g rb rc (bnd md fun rd => prim2 h rc rd))
def kC32 (f g h : D → D → Option Rz) (mc md : ME) (ra rb : Rv) : ME := mLink f ra rb (bnd mc fun rc => mLink g rb rc (bnd md fun rd => prim2 h rc rd))
theorem mChain3_ap {f g h : D → D → Option Rz} {md : ME} : mChain3 f g h ma mb mc md env = bndR (ma env) (kC31 f g h mb mc md) := rfl
theorem kC31_ap {f g h : D → D → Option Rz} {md : ME} : kC31 f g h mb mc md ra env = bndR (mb env) (kC32 f g h mc md ra) := rfl
theorem kC32_ap {f g h : D → D → Option Rz} {md : ME} : kC32 f g h mc md ra rb env = bndR (kP2 f (content ra env) (content rb env) env) (kLink (kCh1 g h mc md rb)) := by rw [← prim2_ap]; rfl
-- settled
def kSl (i : Nat) : Option Sl → Env → Option (D × Env)
  | some (.fz d), env => some (d, env)
  | some (.ow d), env => some (d, env.set i (.fz d))
  | _, _ => none
theorem settle_val : settle (.val d) env = some (d, env) := rfl
theorem settle_new : settle (.new d) env = some (d, env) := rfl
theorem settle_bor : settle (.bor i) env = kSl i env[i]? env := by unfold settle kSl; simp only; all_goals (cases env[i]? with | none => rfl | some x => cases x <;> rfl)
theorem kSl_fz : kSl i (some (.fz d)) env = some (d, env) := rfl
theorem kSl_ow : kSl i (some (.ow d)) env = some (d, env.set i (.fz d)) := rfl
def kOk {α γ : Type} (h : α → γ) : Option (α × Env) → Option (Res γ)
  | some (a, e) => some (.ok (h a) e)
  | none => none
theorem kOk_some {γ : Type} {h : α → γ} {a : α} : kOk h (some (a, e)) = some (.ok (h a) e) := rfl
def kD (rv : Rv) : M D := fun env => kOk id (settle rv env)
theorem mD_ap : mD ma env = bndR (ma env) kD := by
  unfold mD bnd bndR
  cases ma env with
  | none => rfl
  | some r => cases r with
    | exc _ _ => rfl
    | ok a e => simp only [kD, kOk]; cases settle a e with | none => rfl | some x => cases x; rfl
theorem kD_ap : kD rv env = kOk id (settle rv env) := rfl
-- argument lists
def kCons1 (s : M (List D)) (a : D) : M (List D) := bnd s fun ds => ret (a :: ds)
def kCons2 (a : D) (ds : List D) : M (List D) := ret (a :: ds)
theorem mCons_ap {s : M (List D)} : mCons ma s env = bndR (mD ma env) (kCons1 s) := rfl
theorem kCons1_ap {s : M (List D)} : kCons1 s d env = bndR (s env) (kCons2 d) := rfl
theorem kCons2_ap {ds : List D} : kCons2 d ds env = some (.ok (d :: ds) env) := rfl
theorem mNil_ap : mNil env = some (.ok [] env) := rfl
def kStar2 (ds es : List D) : M (List D) := ret (ds ++ es)
def kStar1 (s : M (List D)) : Option (List D) → M (List D)
  | some ds => bnd s fun es => ret (ds ++ es)
  | none => stuck
def kStar (s : M (List D)) (rv : Rv) : M (List D) := fun env => kStar1 s ((content rv env).bind items) env
theorem mStar_ap {s : M (List D)} : mStar ma s env = bndR (ma env) (kStar s) := by
  unfold mStar bnd bndR
  cases ma env with
  | none => rfl
  | some r => cases r with
    | exc _ _ => rfl
    | ok a e => simp only [kStar, kStar1]; cases (content a e).bind items <;> rfl
theorem kStar_ap {s : M (List D)} : kStar s rv env = kStar1 s ((content rv env).bind items) env := rfl
theorem kStar1_some {s : M (List D)} {ds : List D} : kStar1 s (some ds) env = bndR (s env) (kStar2 ds) := rfl
theorem kStar2_ap {ds es : List D} : kStar2 ds es env = some (.ok (ds ++ es) env) := rfl
def kTup (ds : List D) : ME := if ds.length ≤ sizeLine then ret (.val (.tup ds)) else stuck
def kLst (ds : List D) : ME := if ds.length ≤ sizeLine then ret (.new (.lst ds)) else stuck
theorem mTup_ap {s : M (List D)} : mTup s env = bndR (s env) kTup := rfl
theorem mLst_ap {s : M (List D)} : mLst s env = bndR (s env) kLst := rfl
theorem kTup_ok {ds : List D} (h : ds.length ≤ sizeLine) : kTup ds env = some (.ok (.val (.tup ds)) env) := by unfold kTup; rw [if_pos h]; rfl
theorem kLst_ok {ds : List D} (h : ds.length ≤ sizeLine) : kLst ds env = some (.ok (.new (.lst ds)) env) := by unfold kLst; rw [if_pos h]; rfl
theorem mDict0_ap : mDict0 env = some (.ok (.new (.dK [])) env) := rfl
-- slices
def kPart : Rv → M (Option Int) := fun rv => match rv with
  | .val (.int i) => ret (some i)
  | _ => stuck
theorem mNoPart_ap : mNoPart env = some (.ok none env) := rfl
theorem mPart_ap : mPart ma env = bndR (ma env) kPart := rfl
theorem kPart_ap {k : Int} : kPart (.val (.int k)) env = some (.ok (some k) env) := rfl
def kS1 (ml mh : M (Option Int)) (ra : Rv) : ME := bnd ml fun lo => bnd mh fun hi => prim1 (fun d => slF d lo hi) ra
def kS2 (mh : M (Option Int)) (ra : Rv) (lo : Option Int) : ME := bnd mh fun hi => prim1 (fun d => slF d lo hi) ra
def kS3 (ra : Rv) (lo hi : Option Int) : ME := prim1 (fun d => slF d lo hi) ra
def kS4 (lo hi : Option Int) : Option D → Env → Option (Res Rv)
  | some d, env => kRz (slF d lo hi) env
  | none, _ => none
theorem mSl_ap {ml mh : M (Option Int)} : mSl ma ml mh env = bndR (ma env) (kS1 ml mh) := rfl
theorem kS1_ap {ml mh : M (Option Int)} : kS1 ml mh ra env = bndR (ml env) (kS2 mh ra) := rfl
theorem kS2_ap {mh : M (Option Int)} {lo : Option Int} : kS2 mh ra lo env = bndR (mh env) (kS3 ra lo) := rfl
theorem kS3_ap {lo hi : Option Int} : kS3 ra lo hi env = kS4 lo hi (content ra env) env := by
  unfold kS3
  rw [prim1_ap]
  cases content ra env <;> rfl
theorem kS4_some {lo hi : Option Int} : kS4 lo hi (some d) env = kRz (slF d lo hi) env := rfl
-- builtins
def kR1 (s : M (List Rv)) (rv : Rv) : M (List Rv) := bnd s fun rvs => ret (rv :: rvs)
def kR2 (rv : Rv) (rvs : List Rv) : M (List Rv) := ret (rv :: rvs)
theorem mRNil_ap : mRNil env = some (.ok [] env) := rfl
theorem mRCons_ap {s : M (List Rv)} : mRCons ma s env = bndR (ma env) (kR1 s) := rfl
theorem kR1_ap {s : M (List Rv)} : kR1 s rv env = bndR (s env) (kR2 rv) := rfl
theorem kR2_ap {rvs : List Rv} : kR2 rv rvs env = some (.ok (rv :: rvs) env) := rfl
def kCts : Option D → Option (List D) → Option (List D)
  | some d, some ds => some (d :: ds)
  | _, _ => none
theorem contents_nil : contents [] env = some [] := rfl
theorem contents_cons {rvs : List Rv} : contents (rv :: rvs) env = kCts (content rv env) (contents rvs env) := by
  show (match content rv env, contents rvs env with | some d, some ds => some (d :: ds) | _, _ => none) = _
  cases content rv env <;> cases contents rvs env <;> rfl
theorem kCts_some {ds : List D} : kCts (some d) (some ds) = some (d :: ds) := rfl
def kCB1 (h : List D → Option Rz) : Option (List D) → Env → Option (Res Rv)
  | some ds, env => kRz (h ds) env
  | none, _ => none
def kCB (h : List D → Option Rz) (rvs : List Rv) : ME := fun env => kCB1 h (contents rvs env) env
theorem mCallB_ap {h : List D → Option Rz} {s : M (List Rv)} : mCallB h s env = bndR (s env) (kCB h) := by
  unfold mCallB bnd bndR
  cases s env with
  | none => rfl
  | some r => cases r with
    | exc _ _ => rfl
    | ok a e =>
      simp only [kCB, kCB1]
      cases contents a e with
      | none => rfl
      | some ds => simp only [Option.bind_some, kRz]; cases h ds <;> rfl
theorem kCB_ap {h : List D → Option Rz} {rvs : List Rv} : kCB h rvs env = kCB1 h (contents rvs env) env := rfl
theorem kCB1_some {h : List D → Option Rz} {ds : List D} : kCB1 h (some ds) env = kRz (h ds) env := rfl
-- calls
def kArg (fl : Bool) (rv : Rv) : M Ar := fun env => match fl, rv with
  | true, .bor i => match owned env[i]? with
    | some _ => some (.ok (.ob i) env)
    | none => kOk Ar.pl (settle rv env)
  | true, .new d => some (.ok (.tp d) env)
  | _, _ => kOk Ar.pl (settle rv env)
theorem mArg_ap {fl : Bool} : mArg fl ma env = bndR (ma env) (kArg fl) := by
  unfold mArg bnd bndR
  cases ma env with
  | none => rfl
  | some r => cases r with
    | exc _ _ => rfl
    | ok a e =>
      simp only [kArg, kOk]
      cases fl with
      | false => simp only; cases settle a e with | none => rfl | some x => cases x; rfl
      | true =>
        cases a with
        | val d => rfl
        | new d => rfl
        | bor i =>
          simp only
          cases owned e[i]? with
          | some _ => rfl
          | none => simp only; cases settle (.bor i) e with | none => rfl | some x => cases x; rfl
theorem kArg_f : kArg false rv env = kOk Ar.pl (settle rv env) := by cases rv <;> rfl
theorem kArg_val {fl : Bool} : kArg fl (.val d) env = some (.ok (.pl d) env) := by cases fl <;> rfl
theorem kArg_new : kArg true (.new d) env = some (.ok (.tp d) env) := rfl
def kArB (i : Nat) : Option Sl → Env → Option (Res Ar)
  | some (.ow _), env => some (.ok (.ob i) env)
  | some (.io _), env => some (.ok (.ob i) env)
  | some (.fz d), env => some (.ok (.pl d) env)
  | _, _ => none
theorem kArg_bor : kArg true (.bor i) env = kArB i env[i]? env := by
  unfold kArg kArB
  simp only [settle_bor]
  cases env[i]? with
  | none => rfl
  | some x => cases x <;> rfl
theorem kArB_ow : kArB i (some (.ow d)) env = some (.ok (.ob i) env) := rfl
theorem kArB_io : kArB i (some (.io d)) env = some (.ok (.ob i) env) := rfl
def kA1 (s : M (List Ar)) (a : Ar) : M (List Ar) := bnd s fun as => ret (a :: as)
def kA2 (a : Ar) (as : List Ar) : M (List Ar) := ret (a :: as)
theorem mANil_ap : mANil env = some (.ok [] env) := rfl
theorem mACons_ap {fl : Bool} {s : M (List Ar)} : mACons fl ma s env = bndR (mArg fl ma env) (kA1 s) := rfl
theorem kA1_ap {a : Ar} {s : M (List Ar)} : kA1 s a env = bndR (s env) (kA2 a) := rfl
theorem kA2_ap {a : Ar} {as : List Ar} : kA2 a as env = some (.ok (a :: as) env) := rfl
def kFin (as : List Ar) : Option (Res Rz) → Env → Option (Res Rv)
  | some (.ok z ps), env => (backTo' as ps env).map fun e => .ok z.rv e
  | some (.exc x ps), env => (backTo' as ps env).map fun e => .exc x e
  | none, _ => none
def kCall1 (sem : Sem') (as : List Ar) : Option (List Sl) → Env → Option (Res Rv)
  | some sls, env => kFin as (sem sls) env
  | none, _ => none
def kCall (sem : Sem') (as : List Ar) : ME := fun env => if (obs as).Nodup ∧ tps as ≤ 1 then kCall1 sem as (slsOf as env) env else none
theorem mCall_ap {sem : Sem'} {s : M (List Ar)} : mCall sem s env = bndR (s env) (kCall sem) := by
  unfold mCall bnd bndR
  cases s env with
  | none => rfl
  | some r => cases r with
    | exc _ _ => rfl
    | ok a e =>
      simp only [kCall]
      split
      · cases slsOf a e with
        | none => rfl
        | some ds => simp only [Option.bind_some, kCall1]; cases sem ds with | none => rfl | some x => cases x <;> rfl
      · rfl
theorem kCall_ap {sem : Sem'} {as : List Ar} : kCall sem as env = if (obs as).Nodup ∧ tps as ≤ 1 then kCall1 sem as (slsOf as env) env else none := rfl
theorem kCall1_some {sem : Sem'} {as : List Ar} {sls : List Sl} : kCall1 sem as (some sls) env = kFin as (sem sls) env := rfl
theorem kFin_ok {as : List Ar} {z : Rz} {ps : List Sl} : kFin as (some (.ok z ps)) env = (backTo' as ps env).map fun e => .ok z.rv e := rfl
def ownD : Option Sl → Option D
  | some (.ow d) => some d
  | some (.io d) => some d
  | _ => none
theorem owned_ow : owned (some (.ow d)) = some d := rfl
theorem owned_io : owned (some (.io d)) = some d := rfl
theorem owned_fz : owned (some (.fz d)) = none := rfl
theorem slsOf_nil : slsOf [] env = some [] := rfl
theorem slsOf_pl {as : List Ar} : slsOf (.pl d :: as) env = (slsOf as env).map (.fz d :: ·) := rfl
theorem slsOf_tp {as : List Ar} : slsOf (.tp d :: as) env = (slsOf as env).map (.io d :: ·) := rfl
def kOb (r : Option (List Sl)) : Option D → Option (List Sl)
  | some d => r.map fun x => Sl.io d :: x
  | none => none
theorem slsOf_ob {as : List Ar} : slsOf (.ob i :: as) env = kOb (slsOf as env) (owned env[i]?) := by
  unfold kOb
  rw [slsOf]
  all_goals (cases owned env[i]? <;> rfl)
theorem kOb_some {r : Option (List Sl)} : kOb r (some d) = r.map (fun x => Sl.io d :: x) := rfl
theorem back_nil {ps : List Sl} : backTo' [] ps env = some env := by cases ps <;> rfl
theorem back_pl {as : List Ar} {p : Sl} {ps : List Sl} : backTo' (.pl d :: as) (p :: ps) env = backTo' as ps env := rfl
theorem back_tp {as : List Ar} {p : Sl} {ps : List Sl} : backTo' (.tp d :: as) (p :: ps) env = backTo' as ps env := rfl
theorem back_ob {as : List Ar} {ps : List Sl} : backTo' (.ob i :: as) (.io d :: ps) env = (backTo' as ps env).map fun e => setOwn e i d := rfl
theorem obs_nil : obs [] = [] := rfl
theorem obs_pl {as : List Ar} : obs (.pl d :: as) = obs as := rfl
theorem obs_tp {as : List Ar} : obs (.tp d :: as) = obs as := rfl
theorem obs_ob {as : List Ar} : obs (.ob i :: as) = i :: obs as := rfl
theorem tps_nil : tps [] = 0 := rfl
theorem tps_pl {as : List Ar} : tps (.pl d :: as) = tps as := rfl
theorem tps_tp {as : List Ar} : tps (.tp d :: as) = tps as + 1 := rfl
theorem tps_ob {as : List Ar} : tps (.ob i :: as) = tps as := rfl
def kSO (env : Env) (i : Nat) (d : D) : Option Sl → Env
  | some (.ow _) => env.set i (.ow d)
  | some (.io _) => env.set i (.io d)
  | _ => env
theorem setOwn_ap : setOwn env i d = kSO env i d env[i]? := by unfold setOwn kSO; cases env[i]? with | none => rfl | some x => cases x <;> rfl
theorem kSO_ow : kSO env i d (some (.ow d')) = env.set i (.ow d) := rfl
theorem kSO_io : kSO env i d (some (.io d')) = env.set i (.io d) := rfl
-- what changes an object
def kMut (i : Nat) : Option (D × D) → Env → Option (Res Rv)
  | some (r, d), env => some (.ok (.val r) (setOwn env i d))
  | none, _ => none
def kMut0 (i : Nat) (h : D → Option (D × D)) : Option D → Env → Option (Res Rv)
  | some d, env => kMut i (h d) env
  | none, _ => none
theorem mMut_ap {h : D → Option (D × D)} : mMut i h env = kMut0 i h (owned env[i]?) env := by
  unfold mMut kMut0
  cases owned env[i]? with
  | none => rfl
  | some d => simp only [kMut]; cases h d with | none => rfl | some x => cases x; rfl
theorem kMut0_some {h : D → Option (D × D)} : kMut0 i h (some d) env = kMut i (h d) env := rfl
theorem kMut_some {r : D} : kMut i (some (r, d)) env = some (.ok (.val r) (setOwn env i d)) := rfl
def kHas (p : D → Bool) (m : ME) : Option D → Env → Option (Res Rv)
  | some d, env => if p d then m env else none
  | none, _ => none
theorem mHas_ap {p : D → Bool} : mHas i p ma env = kHas p ma (owned env[i]?) env := by
  unfold mHas kHas
  cases owned env[i]? <;> rfl
theorem kHas_lst {xs : List D} : kHas isL ma (some (.lst xs)) env = ma env := rfl
def kApp (i : Nat) (y : D) : ME := mMut i (appF y)
theorem mAppend_ap : mAppend i ma env = mHas i isL (bnd (mD ma) (kApp i)) env := rfl
theorem kApp_ap {y : D} : kApp i y env = kMut0 i (appF y) (owned env[i]?) env := mMut_ap
theorem mPop_ap : mPop i env = mHas i isL (mMut i popF) env := rfl
def kExt1 (i : Nat) : Option D → Env → Option (Res Rv)
  | some y, env => mMut i (extF y) env
  | none, _ => none
def kExt (i : Nat) (rv : Rv) : ME := fun env => kExt1 i (content rv env) env
theorem mExtend_ap : mExtend i ma env = mHas i isL (bnd ma (kExt i)) env := by
  unfold mExtend
  congr 1
  congr 1
  funext rv env
  simp only [kExt, kExt1]
  cases content rv env <;> rfl
theorem kExt_ap : kExt i rv env = kExt1 i (content rv env) env := rfl
theorem kExt1_some : kExt1 i (some d) env = mMut i (extF d) env := rfl
theorem appF_ok {xs : List D} {y : D} (h : xs.length < sizeLine) : appF y (.lst xs) = some (.non, .lst (xs ++ [y])) := by simp [appF, h]
theorem extF_ok {xs ys : List D} (h : xs.length + ys.length ≤ sizeLine) : extF (.lst ys) (.lst xs) = some (.non, .lst (xs ++ ys)) := by simp [extF, h]
theorem popF_snoc (xs : List D) (y : D) : popF (.lst (xs ++ [y])) = some (y, .lst xs) := by simp [popF]
-- statements
def kSeq (sb : MS) : Fl → MS := fun fl => match fl with
  | .nx => sb
  | fl => ret fl
theorem mSeq_ap : mSeq sa sb env = bndR (sa env) (kSeq sb) := rfl
theorem kSeq_nx : kSeq sb .nx env = sb env := rfl
theorem kSeq_rt {z : Rz} : kSeq sb (.rt z) env = some (.ok (.rt z) env) := rfl
theorem kSeq_bk : kSeq sb .bk env = some (.ok .bk env) := rfl
theorem kSeq_ct : kSeq sb .ct env = some (.ok .ct env) := rfl
theorem mSkip_ap : mSkip env = some (.ok .nx env) := rfl
theorem mBrk_ap : mBrk env = some (.ok .bk env) := rfl
theorem mCnt_ap : mCnt env = some (.ok .ct env) := rfl
def kDrop (_ : Rv) : MS := ret .nx
theorem mExpr_ap : mExpr ma env = bndR (ma env) kDrop := rfl
theorem kDrop_ap : kDrop rv env = some (.ok .nx env) := rfl
def kRetB : Option Sl → Env → Option (Res Fl)
  | some (.fz d), env => some (.ok (.rt (false, d)) env)
  | some (.ow d), env => some (.ok (.rt (true, d)) env)
  | _, _ => none
def kRet : Rv → MS := fun rv env => match rv with
  | .val d => some (.ok (.rt (false, d)) env)
  | .new d => some (.ok (.rt (true, d)) env)
  | .bor i => match env[i]? with
    | some (.fz d) => some (.ok (.rt (false, d)) env)
    | some (.ow d) => some (.ok (.rt (true, d)) env)
    | _ => none
theorem mRet_ap : mRet ma env = bndR (ma env) kRet := rfl
theorem kRet_val : kRet (.val d) env = some (.ok (.rt (false, d)) env) := rfl
theorem kRet_new : kRet (.new d) env = some (.ok (.rt (true, d)) env) := rfl
theorem kRet_bor : kRet (.bor i) env = kRetB env[i]? env := by unfold kRet kRetB; simp only; cases env[i]? with | none => rfl | some x => cases x <;> rfl
theorem kRetB_fz : kRetB (some (.fz d)) env = some (.ok (.rt (false, d)) env) := rfl
theorem kRetB_ow : kRetB (some (.ow d)) env = some (.ok (.rt (true, d)) env) := rfl
theorem mRetN_ap : mRetN env = some (.ok (.rt (false, .non)) env) := rfl
def kNx : Option Env → Option (Res Fl)
  | some e => some (.ok .nx e)
  | none => none
theorem kNx_some : kNx (some e) = some (.ok .nx e) := rfl
def kSet (i : Nat) (rv : Rv) : MS := fun env => kNx (setSl env i rv)
theorem mSet_ap : mSet i ma env = bndR (ma env) (kSet i) := by
  unfold mSet bnd bndR
  cases ma env with
  | none => rfl
  | some r => cases r with
    | exc _ _ => rfl
    | ok a e => simp only [kSet, kNx]; cases setSl e i a <;> rfl
theorem kSet_ap : kSet i rv env = kNx (setSl env i rv) := rfl
def kSS (env : Env) (i : Nat) (rv : Rv) (o : Option Sl) : Option Env := if noIo o = true then putRv env i rv else none
theorem setSl_ap : setSl env i rv = kSS env i rv env[i]? := rfl
theorem kSS_no : kSS env i rv (some .no) = putRv env i rv := rfl
theorem kSS_fz : kSS env i rv (some (.fz d)) = putRv env i rv := rfl
theorem kSS_ow : kSS env i rv (some (.ow d)) = putRv env i rv := rfl
theorem kSS_pl {s : Sl} (h : noIo (some s) = true) : kSS env i rv (some s) = putRv env i rv := by unfold kSS; rw [if_pos h]
theorem putRv_val : putRv env i (.val d) = some (env.set i (.fz d)) := rfl
theorem putRv_new : putRv env i (.new d) = some (env.set i (.ow d)) := rfl
theorem putRv_bor {j : Nat} : putRv env i (.bor j) = (kSl j env[j]? env).map fun y => y.2.set i (.fz y.1) := by rw [← settle_bor]; rfl
theorem noIo_no : noIo (some .no) = true := rfl
theorem noIo_fz : noIo (some (.fz d)) = true := rfl
theorem noIo_ow : noIo (some (.ow d)) = true := rfl
def kAsg (g : D → Env → Option Env) (d : D) : MS := fun env => kNx (g d env)
theorem mAsg_ap {g : D → Env → Option Env} : mAsg g ma env = bndR (mD ma env) (kAsg g) := by
  unfold mAsg
  rw [bnd_ap]
  unfold bndR
  cases mD ma env with
  | none => rfl
  | some r => cases r with
    | exc _ _ => rfl
    | ok a e => simp only [kAsg, kNx]; cases g a e <;> rfl
theorem kAsg_ap {g : D → Env → Option Env} : kAsg g d env = kNx (g d env) := rfl
theorem gNm_ap : gNm i d env = setSl env i (.val d) := rfl
theorem gTp_ap {n : Nat} {gs : List D → Env → Option Env} {ds : List D} (h : ds.length = n) : gTp n gs (.tup ds) env = gs ds env := by unfold gTp; simp only; rw [if_pos h]
theorem gsNil_ap : gsNil [] env = some env := rfl
theorem gsCons_ap {g : D → Env → Option Env} {gs : List D → Env → Option Env} {ds : List D} : gsCons g gs (d :: ds) env = (g d env).bind (gs ds) := rfl
-- several names
def kSt : Rv → ME := fun rv env => match rv with
  | .bor k => kOk Rv.val (settle (.bor k) env)
  | rv => some (.ok rv env)
theorem mSt_ap : mSt ma env = bndR (ma env) kSt := by
  unfold mSt bnd bndR
  cases ma env with
  | none => rfl
  | some r => cases r with
    | exc _ _ => rfl
    | ok a e =>
      cases a with
      | val d => rfl
      | new d => rfl
      | bor k => simp only [kSt, kOk]; cases settle (.bor k) e with | none => rfl | some x => cases x; rfl
theorem kSt_val : kSt (.val d) env = some (.ok (.val d) env) := rfl
theorem kSt_new : kSt (.new d) env = some (.ok (.new d) env) := rfl
theorem kSt_bor : kSt (.bor i) env = kOk Rv.val (kSl i env[i]? env) := by rw [← settle_bor]; rfl
def kPC1 (s : M (List Rv)) (rv : Rv) : M (List Rv) := bnd s fun rvs => ret (rv :: rvs)
theorem mPNil_ap : mPNil env = some (.ok [] env) := rfl
theorem mPCons_ap {s : M (List Rv)} : mPCons ma s env = bndR (mSt ma env) (kPC1 s) := rfl
theorem kPC1_ap {s : M (List Rv)} : kPC1 s rv env = bndR (s env) (kR2 rv) := rfl
def kPar (is : List Nat) (rvs : List Rv) : MS := fun env => kNx (putN is rvs env)
theorem mPar_ap {is : List Nat} {s : M (List Rv)} : mPar is s env = bndR (s env) (kPar is) := by
  unfold mPar bnd bndR
  cases s env with
  | none => rfl
  | some r => cases r with
    | exc _ _ => rfl
    | ok a e => simp only [kPar, kNx]; cases putN is a e <;> rfl
theorem kPar_ap {is : List Nat} {rvs : List Rv} : kPar is rvs env = kNx (putN is rvs env) := rfl
theorem putN_nil : putN [] [] env = some env := rfl
theorem putN_cons {is : List Nat} {rvs : List Rv} : putN (i :: is) (rv :: rvs) env = (setSl env i rv).bind (putN is rvs) := rfl
-- x op= e
def kAug2 (i : Nat) (z : Rz) : MS := fun env => kNx (setSl env i z.rv)
def kAug1 (i : Nat) (f : D → D → Option Rz) (a d : D) : MS := fun env => match f a d with
  | some z => kAug2 i z env
  | none => none
def kAug (i : Nat) (f : D → D → Option Rz) (m : ME) : Option Sl → Env → Option (Res Fl)
  | some (.fz a), env => bndR (mD m env) (kAug1 i f a)
  | _, _ => none
theorem mAug_ap : mAug i f ma env = kAug i f ma env[i]? env := by
  unfold mAug kAug
  cases env[i]? with
  | none => rfl
  | some x =>
    cases x with
    | fz a =>
      simp only
      rw [bnd_ap]
      unfold bndR
      cases mD ma env with
      | none => rfl
      | some r => cases r with
        | exc _ _ => rfl
        | ok b e =>
          simp only [kAug1, kAug2, bnd, opt]
          cases f a b with
          | none => rfl
          | some z => simp only [Option.map_some, kNx]; cases setSl e i z.rv <;> rfl
    | _ => rfl
theorem kAug_fz : kAug i f ma (some (.fz d)) env = bndR (mD ma env) (kAug1 i f d) := rfl
theorem kAug1_ap {z : Rz} (h : f d d' = some z) : kAug1 i f d d' env = kNx (setSl env i z.rv) := by unfold kAug1; rw [h]; rfl
-- o[i] = e
def kIx3 (i : Nat) (y : D) : Option D → MS
  | some k => fun env => match owned env[i]? with
    | some d => match setF y k d with
      | some (_, d') => some (.ok .nx (setOwn env i d'))
      | none => none
    | none => none
  | none => stuck
def kIx2 (i : Nat) (y : D) (rk : Rv) : MS := fun env => kIx3 i y (content rk env) env
def kIx1 (i : Nat) (mi : ME) (y : D) : Option D → Env → Option (Res Fl)
  | some _, env => bndR (mi env) (kIx2 i y)
  | none, _ => none
def kIx (i : Nat) (mi : ME) (y : D) : MS := fun env => kIx1 i mi y (owned env[i]?) env
theorem mSetIx_ap {mi : ME} : mSetIx i mi ma env = bndR (mD ma env) (kIx i mi) := by
  unfold mSetIx
  rw [bnd_ap]
  unfold bndR
  cases mD ma env with
  | none => rfl
  | some r => cases r with
    | exc _ _ => rfl
    | ok y e =>
      simp only [kIx, kIx1]
      cases owned e[i]? with
      | none => rfl
      | some d =>
        simp only [bnd_ap]
        unfold bndR
        cases mi e with
        | none => rfl
        | some r => cases r with
          | exc _ _ => rfl
          | ok k e2 =>
            simp only [kIx2, kIx3]
            cases content k e2 with
            | none => rfl
            | some k =>
              simp only [mMut, bnd]
              cases owned e2[i]? with
              | none => rfl
              | some d2 => simp only; cases setF y k d2 with | none => rfl | some z => cases z; rfl
theorem kIx_ap {mi : ME} {y : D} : kIx i mi y env = kIx1 i mi y (owned env[i]?) env := rfl
theorem kIx1_some {mi : ME} {y : D} : kIx1 i mi y (some d) env = bndR (mi env) (kIx2 i y) := rfl
theorem kIx2_ap {y : D} : kIx2 i y rv env = kIx3 i y (content rv env) env := rfl
def kIx4 (i : Nat) : Option (D × D) → Env → Option (Res Fl)
  | some (_, d), env => some (.ok .nx (setOwn env i d))
  | none, _ => none
def kIx5 (i : Nat) (y k : D) : Option D → Env → Option (Res Fl)
  | some d, env => kIx4 i (setF y k d) env
  | none, _ => none
theorem kIx3_some {y k : D} : kIx3 i y (some k) env = kIx5 i y k (owned env[i]?) env := by
  unfold kIx3 kIx5 kIx4
  simp only
  cases owned env[i]? with
  | none => rfl
  | some d => simp only; cases setF y k d with | none => rfl | some z => cases z; rfl
theorem kIx5_some {y k : D} : kIx5 i y k (some d) env = kIx4 i (setF y k d) env := rfl
theorem kIx4_some {z : D × D} : kIx4 i (some z) env = some (.ok .nx (setOwn env i z.2)) := by cases z; rfl
theorem setF_ok {xs : List D} {y : D} {k : Int} {j : Nat} (h : ixN xs.length k = some j) : setF y (.int k) (.lst xs) = some (.non, .lst (xs.set j y)) := by simp [setF, h]
-- numbers
theorem addF_ii {i j : Int} : addF (.int i) (.int j) = val (.int (i + j)) := rfl
theorem addF_tt {a b : List D} (h : a.length + b.length ≤ sizeLine) : addF (.tup a) (.tup b) = val (.tup (a ++ b)) := by unfold addF; simp only; rw [if_pos h]
theorem addF_ll {a b : List D} (h : a.length + b.length ≤ sizeLine) : addF (.lst a) (.lst b) = new (.lst (a ++ b)) := by unfold addF; simp only; rw [if_pos h]
theorem addF_ss {a b : Str} (h : a.length + b.length ≤ sizeLine) : addF (.str a) (.str b) = val (.str (a ++ b)) := by unfold addF; simp only; rw [if_pos h]
theorem mulF_ii {i j : Int} (h : CMulA i j) : mulF (.int i) (.int j) = val (.int (i * j)) := by unfold mulF; simp only; rw [if_pos h]
theorem mulF_tt {a : List D} {k : Int} (h : a ≠ []) (h2 : 2 ≤ k) (h3 : k ≤ 1000) (h4 : a.length ≤ 1000) : mulF (.tup a) (.int k) = val (.tup (List.replicate k.toNat a).flatten) := by unfold mulF; simp only; rw [if_pos ⟨h, h2, h3, h4⟩]
theorem mulF_ll {a : List D} {k : Int} (h2 : 0 ≤ k) (h3 : a.length * k.toNat ≤ sizeLine) (h4 : k ≤ 1000000) : mulF (.lst a) (.int k) = new (.lst (List.replicate k.toNat a).flatten) := by
  have : -(2 ^ 63 : Int) ≤ k ∧ k < 2 ^ 63 ∧ a.length * k.toNat ≤ sizeLine := ⟨by omega, by omega, h3⟩
  unfold mulF; simp only; rw [if_pos this]
theorem subF_ii {i j : Int} : subF (.int i) (.int j) = val (.int (i - j)) := rfl
theorem ltF_ii {i j : Int} : ltF (.int i) (.int j) = val (.bl (decide (i < j))) := rfl
theorem leF_ii {i j : Int} : leF (.int i) (.int j) = val (.bl (decide (i ≤ j))) := rfl
theorem gtF_ii {i j : Int} : gtF (.int i) (.int j) = val (.bl (decide (j < i))) := rfl
theorem geF_ii {i j : Int} : geF (.int i) (.int j) = val (.bl (decide (j ≤ i))) := rfl
theorem modF_ii {i j : Int} (h : 0 < j) : modF (.int i) (.int j) = val (.int (i % j)) := by unfold modF fI; simp only; rw [if_pos h]
theorem divF_ii {i j : Int} (h : CDivA i j) : divF (.int i) (.int j) = val (.int (i / j)) := by unfold divF fI; simp only; rw [if_pos h]
theorem powF_ii {i j : Int} (h : CPowA i j) : powF (.int i) (.int j) = val (.int (i ^ j.toNat)) := by unfold powF fI; simp only; rw [if_pos h]
-- items by their place
theorem ixF_lenG {a : D} {ds : List D} {k : Int} (hi : items a = some ds) (h0 : 0 ≤ k) (h1 : k.toNat < ds.length) (hs : ∀ s, a = .str s → False) : ixF a (.int k) = val (ds[k.toNat]'h1) := by
  have q : L2.atI ds k = some (ds[k.toNat]'h1) := by
    unfold L2.atI L2.ixN
    simp only [h0, if_true]
    rw [if_pos (by omega)]
    simp
  unfold ixF
  cases a <;> first | exact (hs _ rfl).elim | simp only [hi, Option.bind_some, q]
theorem ixF_lst {ds : List D} {k : Int} (h0 : 0 ≤ k) (h1 : k.toNat < ds.length) : ixF (.lst ds) (.int k) = val (ds[k.toNat]'h1) := ixF_lenG rfl h0 h1 nofun
theorem ixF_lst0 {x0 : D} {xs : List D} : ixF (.lst (x0 :: xs)) (.int 0) = val x0 := by
  have h := ixF_lenG (a := .lst (x0 :: xs)) (ds := x0 :: xs) (k := 0) rfl (by decide) (by simp) nofun
  exact h
theorem ixF_lst1 {x0 x1 : D} {xs : List D} : ixF (.lst (x0 :: x1 :: xs)) (.int 1) = val x1 := by
  have h := ixF_lenG (a := .lst (x0 :: x1 :: xs)) (ds := x0 :: x1 :: xs) (k := 1) rfl (by decide) (by simp) nofun
  exact h
theorem ixF_lst2 {x0 x1 x2 : D} {xs : List D} : ixF (.lst (x0 :: x1 :: x2 :: xs)) (.int 2) = val x2 := by
  have h := ixF_lenG (a := .lst (x0 :: x1 :: x2 :: xs)) (ds := x0 :: x1 :: x2 :: xs) (k := 2) rfl (by decide) (by simp) nofun
  exact h
theorem ixF_lst3 {x0 x1 x2 x3 : D} {xs : List D} : ixF (.lst (x0 :: x1 :: x2 :: x3 :: xs)) (.int 3) = val x3 := by
  have h := ixF_lenG (a := .lst (x0 :: x1 :: x2 :: x3 :: xs)) (ds := x0 :: x1 :: x2 :: x3 :: xs) (k := 3) rfl (by decide) (by simp) nofun
  exact h
theorem ixF_lstm {ds : List D} {x : D} : ixF (.lst (ds ++ [x])) (.int (-1)) = val x := by
  simp only [ixF, items, L2.atI, L2.ixN, Option.bind_some, List.length_append, List.length_cons, List.length_nil]
  rw [if_neg (by omega), if_pos (by omega), Option.bind_some, show ((-1 : Int) + ((ds.length + (0 + 1) : Nat) : Int)).toNat = ds.length by omega]
  simp
theorem ixF_tup {ds : List D} {k : Int} (h0 : 0 ≤ k) (h1 : k.toNat < ds.length) : ixF (.tup ds) (.int k) = val (ds[k.toNat]'h1) := ixF_lenG rfl h0 h1 nofun
theorem ixF_tup0 {x0 : D} {xs : List D} : ixF (.tup (x0 :: xs)) (.int 0) = val x0 := by
  have h := ixF_lenG (a := .tup (x0 :: xs)) (ds := x0 :: xs) (k := 0) rfl (by decide) (by simp) nofun
  exact h
theorem ixF_tup1 {x0 x1 : D} {xs : List D} : ixF (.tup (x0 :: x1 :: xs)) (.int 1) = val x1 := by
  have h := ixF_lenG (a := .tup (x0 :: x1 :: xs)) (ds := x0 :: x1 :: xs) (k := 1) rfl (by decide) (by simp) nofun
  exact h
theorem ixF_tup2 {x0 x1 x2 : D} {xs : List D} : ixF (.tup (x0 :: x1 :: x2 :: xs)) (.int 2) = val x2 := by
  have h := ixF_lenG (a := .tup (x0 :: x1 :: x2 :: xs)) (ds := x0 :: x1 :: x2 :: xs) (k := 2) rfl (by decide) (by simp) nofun
  exact h
theorem ixF_tup3 {x0 x1 x2 x3 : D} {xs : List D} : ixF (.tup (x0 :: x1 :: x2 :: x3 :: xs)) (.int 3) = val x3 := by
  have h := ixF_lenG (a := .tup (x0 :: x1 :: x2 :: x3 :: xs)) (ds := x0 :: x1 :: x2 :: x3 :: xs) (k := 3) rfl (by decide) (by simp) nofun
  exact h
theorem ixF_tupm {ds : List D} {x : D} : ixF (.tup (ds ++ [x])) (.int (-1)) = val x := by
  simp only [ixF, items, L2.atI, L2.ixN, Option.bind_some, List.length_append, List.length_cons, List.length_nil]
  rw [if_neg (by omega), if_pos (by omega), Option.bind_some, show ((-1 : Int) + ((ds.length + (0 + 1) : Nat) : Int)).toNat = ds.length by omega]
  simp
theorem ixF_rol {ds : List D} {k : Int} (h0 : 0 ≤ k) (h1 : k.toNat < ds.length) : ixF (.rol ds) (.int k) = val (ds[k.toNat]'h1) := ixF_lenG rfl h0 h1 nofun
theorem ixF_rol0 {x0 : D} {xs : List D} : ixF (.rol (x0 :: xs)) (.int 0) = val x0 := by
  have h := ixF_lenG (a := .rol (x0 :: xs)) (ds := x0 :: xs) (k := 0) rfl (by decide) (by simp) nofun
  exact h
theorem ixF_rol1 {x0 x1 : D} {xs : List D} : ixF (.rol (x0 :: x1 :: xs)) (.int 1) = val x1 := by
  have h := ixF_lenG (a := .rol (x0 :: x1 :: xs)) (ds := x0 :: x1 :: xs) (k := 1) rfl (by decide) (by simp) nofun
  exact h
theorem ixF_rol2 {x0 x1 x2 : D} {xs : List D} : ixF (.rol (x0 :: x1 :: x2 :: xs)) (.int 2) = val x2 := by
  have h := ixF_lenG (a := .rol (x0 :: x1 :: x2 :: xs)) (ds := x0 :: x1 :: x2 :: xs) (k := 2) rfl (by decide) (by simp) nofun
  exact h
theorem ixF_rol3 {x0 x1 x2 x3 : D} {xs : List D} : ixF (.rol (x0 :: x1 :: x2 :: x3 :: xs)) (.int 3) = val x3 := by
  have h := ixF_lenG (a := .rol (x0 :: x1 :: x2 :: x3 :: xs)) (ds := x0 :: x1 :: x2 :: x3 :: xs) (k := 3) rfl (by decide) (by simp) nofun
  exact h
theorem ixF_rolm {ds : List D} {x : D} : ixF (.rol (ds ++ [x])) (.int (-1)) = val x := by
  simp only [ixF, items, L2.atI, L2.ixN, Option.bind_some, List.length_append, List.length_cons, List.length_nil]
  rw [if_neg (by omega), if_pos (by omega), Option.bind_some, show ((-1 : Int) + ((ds.length + (0 + 1) : Nat) : Int)).toNat = ds.length by omega]
  simp
theorem setF_0 {x0 y : D} {xs : List D} : setF y (.int 0) (.lst (x0 :: xs)) = some (.non, .lst (y :: xs)) := by
  simp only [setF, L2.ixN, List.length_cons]
  rw [if_pos (by omega), if_pos (by omega)]
  rfl
theorem setF_1 {x0 x1 y : D} {xs : List D} : setF y (.int 1) (.lst (x0 :: x1 :: xs)) = some (.non, .lst (x0 :: y :: xs)) := by
  simp only [setF, L2.ixN, List.length_cons]
  rw [if_pos (by omega), if_pos (by omega)]
  rfl
theorem setF_2 {x0 x1 x2 y : D} {xs : List D} : setF y (.int 2) (.lst (x0 :: x1 :: x2 :: xs)) = some (.non, .lst (x0 :: x1 :: y :: xs)) := by
  simp only [setF, L2.ixN, List.length_cons]
  rw [if_pos (by omega), if_pos (by omega)]
  rfl
theorem setF_3 {x0 x1 x2 x3 y : D} {xs : List D} : setF y (.int 3) (.lst (x0 :: x1 :: x2 :: x3 :: xs)) = some (.non, .lst (x0 :: x1 :: x2 :: y :: xs)) := by
  simp only [setF, L2.ixN, List.length_cons]
  rw [if_pos (by omega), if_pos (by omega)]
  rfl
-- loops' turns
def kTurn (k : MS) : Fl → MS := fun fl => match fl with
  | .nx => k
  | .ct => k
  | .bk => ret .nx
  | .rt d => ret (.rt d)
theorem mTurn_ap {k : MS} : mTurn sa k env = bndR (sa env) (kTurn k) := rfl
theorem kTurn_nx {k : MS} : kTurn k .nx env = k env := rfl
theorem kTurn_ct {k : MS} : kTurn k .ct env = k env := rfl
theorem kTurn_bk {k : MS} : kTurn k .bk env = some (.ok .nx env) := rfl
theorem kTurn_rt {k : MS} {z : Rz} : kTurn k (.rt z) env = some (.ok (.rt z) env) := rfl
noncomputable def kWh (c : M Bool) (b : MS) (k : Bool) : MS := if k then mTurn b (mWhile c b) else ret .nx
theorem mWhile_ap (c : M Bool) (b : MS) (env : Env) : mWhile c b env = bndR (c env) (kWh c b) := by rw [mWhile_eq]; rfl
theorem kWh_t {c : M Bool} {b : MS} : kWh c b true env = bndR (b env) (kTurn (mWhile c b)) := rfl
theorem kWh_f {c : M Bool} {b : MS} : kWh c b false env = some (.ok .nx env) := rfl
theorem forF_nil {g : D → Env → Option Env} {b : MS} : forF g b [] env = some (.ok .nx env) := rfl
noncomputable def kForS (g : D → Env → Option Env) (b : MS) (z : Src) : MS := forL z.2 (Src.ok z) g b z.1
theorem mFor_ap {it : M Src} {g : D → Env → Option Env} {b : MS} : mFor it g b env = bndR (it env) (kForS g b) := rfl
theorem kForS_ap {g : D → Env → Option Env} {b : MS} {ds : List D} : kForS g b (ds, none) env = forF g b ds env := by unfold kForS; rw [forL_none]
def kFor (b k : MS) : Option Env → Option (Res Fl)
  | some e => bndR (b e) (kTurn k)
  | none => none
theorem forF_cons {g : D → Env → Option Env} {b : MS} {ds : List D} : forF g b (d :: ds) env = kFor b (forF g b ds) (g d env) := by
  simp only [forF, kFor]
  cases g d env <;> rfl
theorem kFor_some {b k : MS} : kFor b k (some e) = bndR (b e) (kTurn k) := rfl
-- a def
def kFn (k : Nat) : Option (Res Fl) → Option (Res Rz)
  | some (.ok (.rt z) e) => some (.ok z (e.take k))
  | some (.ok .nx e) => some (.ok (false, .non) (e.take k))
  | _ => none
theorem semFn_ap {k n : Nat} {m : MS} {args : List Sl} (h : args.length = k ∧ args.all plainArg = true ∧ k ≤ n) : semFn k n m args = kFn k (m (args ++ List.replicate (n - k) .no)) := by
  unfold semFn kFn
  rw [if_pos h]
  all_goals (cases m (args ++ List.replicate (n - k) .no) with
  | none => rfl
  | some r => cases r with
    | exc _ _ => rfl
    | ok fl e => cases fl <;> rfl)
theorem kFn_rt {k : Nat} {z : Rz} : kFn k (some (.ok (.rt z) e)) = some (.ok z (e.take k)) := rfl
theorem kFn_nx {k : Nat} : kFn k (some (.ok .nx e)) = some (.ok (false, .non) (e.take k)) := rfl
theorem plain_fz : plainArg (.fz d) = true := rfl
theorem plain_io : plainArg (.io d) = true := rfl
-- what is walked
def kSrc (o : Option (Nat × D)) : Option (List D) → Env → Option (Res Src)
  | some ds, env => some (.ok (ds, o) env)
  | none, _ => none
def kIt2 : Option (D × Env) → Option (Res Src)
  | some (d, e) => kSrc none (items d) e
  | none => none
def kIt1 (rv : Rv) : Option (Nat × D) → Env → Option (Res Src)
  | some (j, d), env => kSrc (some (j, d)) (items d) env
  | none, env => kIt2 (settle rv env)
def kIt (rv : Rv) : M Src := fun env => kIt1 rv (ioOf rv env) env
theorem mItems_ap : mItems ma env = bndR (ma env) kIt := by
  unfold mItems bnd bndR
  cases ma env with
  | none => rfl
  | some r => cases r with
    | exc _ _ => rfl
    | ok a e =>
      simp only [kIt, kIt1]
      cases ioOf a e with
      | none =>
        simp only [kIt2]
        cases settle a e with
        | none => rfl
        | some x => cases x; simp only [kSrc]; cases items _ <;> rfl
      | some x => cases x; simp only [kSrc]; cases items _ <;> rfl
theorem kIt_val : kIt (.val d) env = kSrc none (items d) env := rfl
theorem kIt_new : kIt (.new d) env = kSrc none (items d) env := rfl
def kItB (i : Nat) : Option Sl → Env → Option (Res Src)
  | some (.fz d), env => kSrc none (items d) env
  | some (.ow d), env => kSrc none (items d) (env.set i (.fz d))
  | some (.io d), env => kSrc (some (i, d)) (items d) env
  | _, _ => none
theorem kIt_bor : kIt (.bor i) env = kItB i env[i]? env := by
  show kIt1 (.bor i) (ioOf (.bor i) env) env = _
  unfold ioOf kItB
  simp only
  cases q : env[i]? with
  | none => simp only [kIt1, settle_bor, q, kSl, kIt2]
  | some x => cases x <;> simp only [kIt1, settle_bor, q, kSl, kIt2]
theorem kItB_fz : kItB i (some (.fz d)) env = kSrc none (items d) env := rfl
theorem kItB_ow : kItB i (some (.ow d)) env = kSrc none (items d) (env.set i (.fz d)) := rfl
theorem kItB_io : kItB i (some (.io d)) env = kSrc (some (i, d)) (items d) env := rfl
theorem kSrc_some {o : Option (Nat × D)} {ds : List D} : kSrc o (some ds) env = some (.ok (ds, o) env) := rfl
theorem items_tup {ds : List D} : items (.tup ds) = some ds := rfl
theorem items_lst {ds : List D} : items (.lst ds) = some ds := rfl
theorem items_rol {ds : List D} : items (.rol ds) = some ds := rfl
def kR (h : List Int → Option Src) : Option (List Int) → Env → Option (Res Src)
  | some ns, env => match h ns with
    | some z => some (.ok z env)
    | none => none
  | none, _ => none
def kRn (h : List Int → Option Src) (ds : List D) : M Src := fun env => kR h (intsD ds) env
theorem mRng_ap {h : List Int → Option Src} {s : M (List D)} : mRng h s env = bndR (s env) (kRn h) := by
  unfold mRng bnd bndR
  cases s env with
  | none => rfl
  | some r => cases r with
    | exc _ _ => rfl
    | ok a e => simp only [kRn, kR]; cases intsD a with | none => rfl | some ns => simp only [Option.bind_some]; all_goals (cases h ns <;> rfl)
theorem kRn_ap {h : List Int → Option Src} {ds : List D} : kRn h ds env = kR h (intsD ds) env := rfl
theorem kR_some {h : List Int → Option Src} {ns : List Int} {z : Src} (q : h ns = some z) : kR h (some ns) env = some (.ok z env) := by simp [kR, q]
end
theorem szL : 1000000 ≤ sizeLine := by rw [sizeLine_eq]; omega
theorem sizeL {n : Nat} (h : n ≤ 100000) : n ≤ sizeLine := by rw [sizeLine_eq]; omega
theorem sizeLt {n : Nat} (h : n < 100000) : n < sizeLine := by rw [sizeLine_eq]; omega
theorem z1 : 1 ≤ sizeLine := sizeL (by omega)
theorem z2 : 2 ≤ sizeLine := sizeL (by omega)
theorem z3 : 3 ≤ sizeLine := sizeL (by omega)
theorem z4 : 4 ≤ sizeLine := sizeL (by omega)
theorem z5 : 5 ≤ sizeLine := sizeL (by omega)
theorem z6 : 6 ≤ sizeLine := sizeL (by omega)
theorem z7 : 7 ≤ sizeLine := sizeL (by omega)
theorem z8 : 8 ≤ sizeLine := sizeL (by omega)
theorem z9 : 9 ≤ sizeLine := sizeL (by omega)
theorem z10 : 10 ≤ sizeLine := sizeL (by omega)
theorem z11 : 11 ≤ sizeLine := sizeL (by omega)
theorem z12 : 12 ≤ sizeLine := sizeL (by omega)
theorem z13 : 13 ≤ sizeLine := sizeL (by omega)
theorem z14 : 14 ≤ sizeLine := sizeL (by omega)
theorem z15 : 15 ≤ sizeLine := sizeL (by omega)
theorem z16 : 16 ≤ sizeLine := sizeL (by omega)
theorem z17 : 17 ≤ sizeLine := sizeL (by omega)
theorem z18 : 18 ≤ sizeLine := sizeL (by omega)
theorem z19 : 19 ≤ sizeLine := sizeL (by omega)
theorem z20 : 20 ≤ sizeLine := sizeL (by omega)
/-! ### tuples and lists of ints -/
def T (t : List Int) : D := .tup (t.map .int)
def L (t : List Int) : D := .lst (t.map .int)
theorem rngD_eq (lo : Int) (n : Nat) : rngD lo n = (List.range n).map fun k : Nat => D.int (lo + (k : Nat)) := rfl
theorem isEmpty_snoc (xs : List D) (y : D) : (xs ++ [y]).isEmpty = false := by cases xs <;> rfl
theorem neF_nil (xs : List D) (h : cmpOk (.lst xs) = true) : neF (.lst xs) (.lst []) = val (.bl (!xs.isEmpty)) := by
  unfold neF
  rw [if_pos ⟨h, by decide +kernel⟩]
  cases xs with
  | nil => rfl
  | cons x xs => rfl
theorem neF_snoc (xs : List D) (y : D) (h : cmpOk (.lst (xs ++ [y])) = true) : neF (.lst (xs ++ [y])) (.lst []) = val (.bl true) := by rw [neF_nil _ h, isEmpty_snoc]; rfl
/-! ### numbers -/
theorem cmulA_left {i j : Int} (h1 : -(2 ^ 64) < i) (h2 : i < 2 ^ 64) : CMulA i j := .inl (.inl ⟨h1, h2⟩)
theorem cmulA_right {i j : Int} (h1 : -(2 ^ 64) < j) (h2 : j < 2 ^ 64) : CMulA i j := .inl (.inr ⟨h1, h2⟩)
theorem cdivA_small {i j : Int} (h1 : 0 < j) (h2 : j < 1073741824) : CDivA i j := .inl ⟨h1, h2⟩
/-! ### the dice of the laws -/
structure Dice (d : D) : Prop where
  ex : ∃ l m c : Int, d = .lst [.int l, .int m, .int c] ∧ 0 ≤ l ∧ 0 ≤ m ∧ m < 4294967296 ∧ 0 ≤ c
end PL

/-! PL: equality of plain data. -/
namespace PL
open PySem L2
mutual
/-- numbers, texts and None in tuples and lists: where == is sameness -/
def iD : D → Bool
  | .non => true
  | .int _ => true
  | .str x => PyData.strOk x
  | .tup xs => iDL xs
  | .lst xs => iDL xs
  | .rol _ => false
  | .bl _ => false
  | .dK _ => false
  | .dT _ => false
  | .set _ _ => false
  | .oth _ => false
def iDL : List D → Bool
  | [] => true
  | x :: xs => iD x && iDL xs
end
mutual
theorem iD_gd : ∀ d : D, iD d = true → gd d = true
  | .non, _ => rfl
  | .int _, _ => rfl
  | .str _, h => h
  | .tup xs, h => iD_gdL xs h
  | .lst xs, h => iD_gdL xs h
theorem iD_gdL : ∀ ds : List D, iDL ds = true → gdL ds = true
  | [], _ => rfl
  | x :: xs, h => by
    have h' := Bool.and_eq_true_iff.mp h
    simp only [gdL, iD_gd x h'.1, iD_gdL xs h'.2, Bool.and_self]
end
mutual
theorem eqv_iff : ∀ a b : D, iD a = true → iD b = true → (eqv a b = true ↔ a = b)
  | .non, b, _, hb => by cases b <;> first | (simp [iD] at hb; done) | simp [eqv, py, PyData.eqv]
  | .int i, b, _, hb => by cases b <;> first | (simp [iD] at hb; done) | simp [eqv, py, PyData.eqv]
  | .str i, b, _, hb => by cases b <;> first | (simp [iD] at hb; done) | simp [eqv, py, PyData.eqv]
  | .tup xs, b, ha, hb => by
    cases b with
    | tup ys => 
      have := eqvL_iff xs ys ha hb
      simp only [eqv, py, PyData.eqv, this, D.tup.injEq]
    | _ => first | (simp [iD] at hb; done) | simp [eqv, py, PyData.eqv]
  | .lst xs, b, ha, hb => by
    cases b with
    | lst ys => 
      have := eqvL_iff xs ys ha hb
      simp only [eqv, py, PyData.eqv, this, D.lst.injEq]
    | _ => first | (simp [iD] at hb; done) | simp [eqv, py, PyData.eqv]
theorem eqvL_iff : ∀ a b : List D, iDL a = true → iDL b = true → (PyData.eqvAll (pyL a) (pyL b) = true ↔ a = b)
  | [], [], _, _ => by simp [pyL, PyData.eqvAll]
  | [], _ :: _, _, _ => by simp [pyL, PyData.eqvAll]
  | _ :: _, [], _, _ => by simp [pyL, PyData.eqvAll]
  | x :: xs, y :: ys, ha, hb => by
    have h1 := Bool.and_eq_true_iff.mp ha
    have h2 := Bool.and_eq_true_iff.mp hb
    have h3 := eqv_iff x y h1.1 h2.1
    have h4 := eqvL_iff xs ys h1.2 h2.2
    simp only [eqv] at h3
    simp only [pyL, PyData.eqvAll, Bool.and_eq_true, h3, h4, List.cons.injEq]
end
theorem iD_cmp {d : D} (h : iD d = true) (hd : dp d ≤ 64) : cmpOk d = true := by
  unfold cmpOk
  rw [iD_gd d h]
  simpa using hd
theorem eqF_i {a b : D} (ha : iD a = true) (hb : iD b = true) (da : dp a ≤ 64) (db : dp b ≤ 64) (k : Bool) (hk : k = true ↔ a = b) : eqF a b = val (.bl k) := by
  unfold eqF
  rw [if_pos ⟨iD_cmp ha da, iD_cmp hb db⟩, show eqv a b = k from Bool.eq_iff_iff.mpr ((eqv_iff a b ha hb).trans hk.symm)]
theorem neF_i {a b : D} (ha : iD a = true) (hb : iD b = true) (da : dp a ≤ 64) (db : dp b ≤ 64) (k : Bool) (hk : k = true ↔ a = b) : neF a b = val (.bl (!k)) := by
  unfold neF
  rw [if_pos ⟨iD_cmp ha da, iD_cmp hb db⟩, show eqv a b = k from Bool.eq_iff_iff.mpr ((eqv_iff a b ha hb).trans hk.symm)]
theorem eqF_int (i j : Int) : eqF (.int i) (.int j) = val (.bl (decide (i = j))) := eqF_i rfl rfl (by simp [dp]) (by simp [dp]) _ (by simp)
theorem neF_int (i j : Int) : neF (.int i) (.int j) = val (.bl (!decide (i = j))) := neF_i rfl rfl (by simp [dp]) (by simp [dp]) _ (by simp)
theorem eqF_bl (i j : Bool) : eqF (.bl i) (.bl j) = val (.bl (i == j)) := by simp [eqF, cmpOk, gd, dp, eqv, py, PyData.eqv]
theorem neF_bl (i j : Bool) : neF (.bl i) (.bl j) = val (.bl (!(i == j))) := by simp [neF, cmpOk, gd, dp, eqv, py, PyData.eqv]
theorem iDL_int : ∀ t : List Int, iDL (t.map .int) = true
  | [] => rfl
  | _ :: t => iDL_int t
theorem dpL_int : ∀ t : List Int, dpL (t.map .int) = 0
  | [] => rfl
  | _ :: t => by simp only [List.map_cons, dpL, dp, dpL_int t]; rfl
theorem int_inj {a b : List Int} : a.map D.int = b.map D.int ↔ a = b := ⟨fun h => (List.map_inj_right fun _ _ h => D.int.inj h).mp h, fun h => by rw [h]⟩
theorem eqF_T (a b : List Int) : eqF (T a) (T b) = val (.bl (decide (a = b))) := eqF_i (a := T a) (b := T b) (iDL_int a) (iDL_int b) (by simp [T, dp, dpL_int]) (by simp [T, dp, dpL_int]) _ (by simp [T, int_inj])
theorem neF_T (a b : List Int) : neF (T a) (T b) = val (.bl (!decide (a = b))) := neF_i (a := T a) (b := T b) (iDL_int a) (iDL_int b) (by simp [T, dp, dpL_int]) (by simp [T, dp, dpL_int]) _ (by simp [T, int_inj])
theorem eqF_L (a b : List Int) : eqF (L a) (L b) = val (.bl (decide (a = b))) := eqF_i (a := L a) (b := L b) (iDL_int a) (iDL_int b) (by simp [L, dp, dpL_int]) (by simp [L, dp, dpL_int]) _ (by simp [L, int_inj])
theorem neF_L (a b : List Int) : neF (L a) (L b) = val (.bl (!decide (a = b))) := neF_i (a := L a) (b := L b) (iDL_int a) (iDL_int b) (by simp [L, dp, dpL_int]) (by simp [L, dp, dpL_int]) _ (by simp [L, int_inj])
theorem eqF_Tm (a b : List Int) : eqF (.tup (a.map .int)) (.tup (b.map .int)) = val (.bl (decide (a = b))) := eqF_T a b
theorem neF_Tm (a b : List Int) : neF (.tup (a.map .int)) (.tup (b.map .int)) = val (.bl (!decide (a = b))) := neF_T a b
end PL

/-! PL: isinstance and comprehensions, evaluated. -/
namespace PL
open PySem L2
theorem kit_NoneType_int : kitB "NoneType" "int" = some false := by decide +kernel
theorem kit_bool_int : kitB "bool" "int" = some true := by decide +kernel
theorem kit_int_int : kitB "int" "int" = some true := by decide +kernel
theorem kit_str_int : kitB "str" "int" = some false := by decide +kernel
theorem kit_tuple_int : kitB "tuple" "int" = some false := by decide +kernel
theorem kit_list_int : kitB "list" "int" = some false := by decide +kernel
theorem kit_dict_int : kitB "dict" "int" = some false := by decide +kernel
theorem isi_non_int : isiF [.non, .oth (.ty "int")] = val (.bl false) := by simp only [isiF, tyD, Option.bind_some, kit_NoneType_int]
theorem isi_bl_int {x} : isiF [(.bl x), .oth (.ty "int")] = val (.bl true) := by simp only [isiF, tyD, Option.bind_some, kit_bool_int]
theorem isi_int_int {x} : isiF [(.int x), .oth (.ty "int")] = val (.bl true) := by simp only [isiF, tyD, Option.bind_some, kit_int_int]
theorem isi_str_int {x} : isiF [(.str x), .oth (.ty "int")] = val (.bl false) := by simp only [isiF, tyD, Option.bind_some, kit_str_int]
theorem isi_tup_int {x} : isiF [(.tup x), .oth (.ty "int")] = val (.bl false) := by simp only [isiF, tyD, Option.bind_some, kit_tuple_int]
theorem isi_lst_int {x} : isiF [(.lst x), .oth (.ty "int")] = val (.bl false) := by simp only [isiF, tyD, Option.bind_some, kit_list_int]
theorem isi_dK_int {x} : isiF [(.dK x), .oth (.ty "int")] = val (.bl false) := by simp only [isiF, tyD, Option.bind_some, kit_dict_int]
theorem isi_dT_int {x} : isiF [(.dT x), .oth (.ty "int")] = val (.bl false) := by simp only [isiF, tyD, Option.bind_some, kit_dict_int]
theorem kit_NoneType_bool : kitB "NoneType" "bool" = some false := by decide +kernel
theorem kit_bool_bool : kitB "bool" "bool" = some true := by decide +kernel
theorem kit_int_bool : kitB "int" "bool" = some false := by decide +kernel
theorem kit_str_bool : kitB "str" "bool" = some false := by decide +kernel
theorem kit_tuple_bool : kitB "tuple" "bool" = some false := by decide +kernel
theorem kit_list_bool : kitB "list" "bool" = some false := by decide +kernel
theorem kit_dict_bool : kitB "dict" "bool" = some false := by decide +kernel
theorem isi_non_bool : isiF [.non, .oth (.ty "bool")] = val (.bl false) := by simp only [isiF, tyD, Option.bind_some, kit_NoneType_bool]
theorem isi_bl_bool {x} : isiF [(.bl x), .oth (.ty "bool")] = val (.bl true) := by simp only [isiF, tyD, Option.bind_some, kit_bool_bool]
theorem isi_int_bool {x} : isiF [(.int x), .oth (.ty "bool")] = val (.bl false) := by simp only [isiF, tyD, Option.bind_some, kit_int_bool]
theorem isi_str_bool {x} : isiF [(.str x), .oth (.ty "bool")] = val (.bl false) := by simp only [isiF, tyD, Option.bind_some, kit_str_bool]
theorem isi_tup_bool {x} : isiF [(.tup x), .oth (.ty "bool")] = val (.bl false) := by simp only [isiF, tyD, Option.bind_some, kit_tuple_bool]
theorem isi_lst_bool {x} : isiF [(.lst x), .oth (.ty "bool")] = val (.bl false) := by simp only [isiF, tyD, Option.bind_some, kit_list_bool]
theorem isi_dK_bool {x} : isiF [(.dK x), .oth (.ty "bool")] = val (.bl false) := by simp only [isiF, tyD, Option.bind_some, kit_dict_bool]
theorem isi_dT_bool {x} : isiF [(.dT x), .oth (.ty "bool")] = val (.bl false) := by simp only [isiF, tyD, Option.bind_some, kit_dict_bool]
theorem kit_NoneType_tuple : kitB "NoneType" "tuple" = some false := by decide +kernel
theorem kit_bool_tuple : kitB "bool" "tuple" = some false := by decide +kernel
theorem kit_int_tuple : kitB "int" "tuple" = some false := by decide +kernel
theorem kit_str_tuple : kitB "str" "tuple" = some false := by decide +kernel
theorem kit_tuple_tuple : kitB "tuple" "tuple" = some true := by decide +kernel
theorem kit_list_tuple : kitB "list" "tuple" = some false := by decide +kernel
theorem kit_dict_tuple : kitB "dict" "tuple" = some false := by decide +kernel
theorem isi_non_tuple : isiF [.non, .oth (.ty "tuple")] = val (.bl false) := by simp only [isiF, tyD, Option.bind_some, kit_NoneType_tuple]
theorem isi_bl_tuple {x} : isiF [(.bl x), .oth (.ty "tuple")] = val (.bl false) := by simp only [isiF, tyD, Option.bind_some, kit_bool_tuple]
theorem isi_int_tuple {x} : isiF [(.int x), .oth (.ty "tuple")] = val (.bl false) := by simp only [isiF, tyD, Option.bind_some, kit_int_tuple]
theorem isi_str_tuple {x} : isiF [(.str x), .oth (.ty "tuple")] = val (.bl false) := by simp only [isiF, tyD, Option.bind_some, kit_str_tuple]
theorem isi_tup_tuple {x} : isiF [(.tup x), .oth (.ty "tuple")] = val (.bl true) := by simp only [isiF, tyD, Option.bind_some, kit_tuple_tuple]
theorem isi_lst_tuple {x} : isiF [(.lst x), .oth (.ty "tuple")] = val (.bl false) := by simp only [isiF, tyD, Option.bind_some, kit_list_tuple]
theorem isi_dK_tuple {x} : isiF [(.dK x), .oth (.ty "tuple")] = val (.bl false) := by simp only [isiF, tyD, Option.bind_some, kit_dict_tuple]
theorem isi_dT_tuple {x} : isiF [(.dT x), .oth (.ty "tuple")] = val (.bl false) := by simp only [isiF, tyD, Option.bind_some, kit_dict_tuple]
theorem kit_NoneType_list : kitB "NoneType" "list" = some false := by decide +kernel
theorem kit_bool_list : kitB "bool" "list" = some false := by decide +kernel
theorem kit_int_list : kitB "int" "list" = some false := by decide +kernel
theorem kit_str_list : kitB "str" "list" = some false := by decide +kernel
theorem kit_tuple_list : kitB "tuple" "list" = some false := by decide +kernel
theorem kit_list_list : kitB "list" "list" = some true := by decide +kernel
theorem kit_dict_list : kitB "dict" "list" = some false := by decide +kernel
theorem isi_non_list : isiF [.non, .oth (.ty "list")] = val (.bl false) := by simp only [isiF, tyD, Option.bind_some, kit_NoneType_list]
theorem isi_bl_list {x} : isiF [(.bl x), .oth (.ty "list")] = val (.bl false) := by simp only [isiF, tyD, Option.bind_some, kit_bool_list]
theorem isi_int_list {x} : isiF [(.int x), .oth (.ty "list")] = val (.bl false) := by simp only [isiF, tyD, Option.bind_some, kit_int_list]
theorem isi_str_list {x} : isiF [(.str x), .oth (.ty "list")] = val (.bl false) := by simp only [isiF, tyD, Option.bind_some, kit_str_list]
theorem isi_tup_list {x} : isiF [(.tup x), .oth (.ty "list")] = val (.bl false) := by simp only [isiF, tyD, Option.bind_some, kit_tuple_list]
theorem isi_lst_list {x} : isiF [(.lst x), .oth (.ty "list")] = val (.bl true) := by simp only [isiF, tyD, Option.bind_some, kit_list_list]
theorem isi_dK_list {x} : isiF [(.dK x), .oth (.ty "list")] = val (.bl false) := by simp only [isiF, tyD, Option.bind_some, kit_dict_list]
theorem isi_dT_list {x} : isiF [(.dT x), .oth (.ty "list")] = val (.bl false) := by simp only [isiF, tyD, Option.bind_some, kit_dict_list]
theorem kit_NoneType_str : kitB "NoneType" "str" = some false := by decide +kernel
theorem kit_bool_str : kitB "bool" "str" = some false := by decide +kernel
theorem kit_int_str : kitB "int" "str" = some false := by decide +kernel
theorem kit_str_str : kitB "str" "str" = some true := by decide +kernel
theorem kit_tuple_str : kitB "tuple" "str" = some false := by decide +kernel
theorem kit_list_str : kitB "list" "str" = some false := by decide +kernel
theorem kit_dict_str : kitB "dict" "str" = some false := by decide +kernel
theorem isi_non_str : isiF [.non, .oth (.ty "str")] = val (.bl false) := by simp only [isiF, tyD, Option.bind_some, kit_NoneType_str]
theorem isi_bl_str {x} : isiF [(.bl x), .oth (.ty "str")] = val (.bl false) := by simp only [isiF, tyD, Option.bind_some, kit_bool_str]
theorem isi_int_str {x} : isiF [(.int x), .oth (.ty "str")] = val (.bl false) := by simp only [isiF, tyD, Option.bind_some, kit_int_str]
theorem isi_str_str {x} : isiF [(.str x), .oth (.ty "str")] = val (.bl true) := by simp only [isiF, tyD, Option.bind_some, kit_str_str]
theorem isi_tup_str {x} : isiF [(.tup x), .oth (.ty "str")] = val (.bl false) := by simp only [isiF, tyD, Option.bind_some, kit_tuple_str]
theorem isi_lst_str {x} : isiF [(.lst x), .oth (.ty "str")] = val (.bl false) := by simp only [isiF, tyD, Option.bind_some, kit_list_str]
theorem isi_dK_str {x} : isiF [(.dK x), .oth (.ty "str")] = val (.bl false) := by simp only [isiF, tyD, Option.bind_some, kit_dict_str]
theorem isi_dT_str {x} : isiF [(.dT x), .oth (.ty "str")] = val (.bl false) := by simp only [isiF, tyD, Option.bind_some, kit_dict_str]
theorem kit_NoneType_dict : kitB "NoneType" "dict" = some false := by decide +kernel
theorem kit_bool_dict : kitB "bool" "dict" = some false := by decide +kernel
theorem kit_int_dict : kitB "int" "dict" = some false := by decide +kernel
theorem kit_str_dict : kitB "str" "dict" = some false := by decide +kernel
theorem kit_tuple_dict : kitB "tuple" "dict" = some false := by decide +kernel
theorem kit_list_dict : kitB "list" "dict" = some false := by decide +kernel
theorem kit_dict_dict : kitB "dict" "dict" = some true := by decide +kernel
theorem isi_non_dict : isiF [.non, .oth (.ty "dict")] = val (.bl false) := by simp only [isiF, tyD, Option.bind_some, kit_NoneType_dict]
theorem isi_bl_dict {x} : isiF [(.bl x), .oth (.ty "dict")] = val (.bl false) := by simp only [isiF, tyD, Option.bind_some, kit_bool_dict]
theorem isi_int_dict {x} : isiF [(.int x), .oth (.ty "dict")] = val (.bl false) := by simp only [isiF, tyD, Option.bind_some, kit_int_dict]
theorem isi_str_dict {x} : isiF [(.str x), .oth (.ty "dict")] = val (.bl false) := by simp only [isiF, tyD, Option.bind_some, kit_str_dict]
theorem isi_tup_dict {x} : isiF [(.tup x), .oth (.ty "dict")] = val (.bl false) := by simp only [isiF, tyD, Option.bind_some, kit_tuple_dict]
theorem isi_lst_dict {x} : isiF [(.lst x), .oth (.ty "dict")] = val (.bl false) := by simp only [isiF, tyD, Option.bind_some, kit_list_dict]
theorem isi_dK_dict {x} : isiF [(.dK x), .oth (.ty "dict")] = val (.bl true) := by simp only [isiF, tyD, Option.bind_some, kit_dict_dict]
theorem isi_dT_dict {x} : isiF [(.dT x), .oth (.ty "dict")] = val (.bl true) := by simp only [isiF, tyD, Option.bind_some, kit_dict_dict]
theorem kit_set_int : kitB "set" "int" = some false := by decide +kernel
theorem isi_set_int {x n} : isiF [.set x n, .oth (.ty "int")] = val (.bl false) := by simp only [isiF, tyD, Option.bind_some, kit_set_int]
theorem kit_set_bool : kitB "set" "bool" = some false := by decide +kernel
theorem isi_set_bool {x n} : isiF [.set x n, .oth (.ty "bool")] = val (.bl false) := by simp only [isiF, tyD, Option.bind_some, kit_set_bool]
theorem kit_set_tuple : kitB "set" "tuple" = some false := by decide +kernel
theorem isi_set_tuple {x n} : isiF [.set x n, .oth (.ty "tuple")] = val (.bl false) := by simp only [isiF, tyD, Option.bind_some, kit_set_tuple]
theorem kit_set_list : kitB "set" "list" = some false := by decide +kernel
theorem isi_set_list {x n} : isiF [.set x n, .oth (.ty "list")] = val (.bl false) := by simp only [isiF, tyD, Option.bind_some, kit_set_list]
theorem kit_set_str : kitB "set" "str" = some false := by decide +kernel
theorem isi_set_str {x n} : isiF [.set x n, .oth (.ty "str")] = val (.bl false) := by simp only [isiF, tyD, Option.bind_some, kit_set_str]
theorem kit_set_dict : kitB "set" "dict" = some false := by decide +kernel
theorem isi_set_dict {x n} : isiF [.set x n, .oth (.ty "dict")] = val (.bl false) := by simp only [isiF, tyD, Option.bind_some, kit_set_dict]
/-! ### comprehensions -/
theorem mYes_ap {env : Env} : mYes env = some (.ok true env) := rfl

theorem lcL_nil {g : D → Env → Option Env} {vs : List Nat} {t : M Bool} {m : ME} {acc : List D} {env : Env} : lcL g vs t m [] acc env = some (acc, env) := rfl
theorem lcL_yes {g : D → Env → Option Env} {vs : List Nat} {t : M Bool} {m : ME} {acc ds : List D} {d y : D} {env e1 e2 e3 : Env} (h1 : g d env = some e1) (h2 : t e1 = some (.ok true e2)) (h3 : mD m e2 = some (.ok y e3)) (h4 : acc.length < sizeLine) (h5 : vs.all (plainSl e3) = true) : lcL g vs t m (d :: ds) acc env = lcL g vs t m ds (acc ++ [y]) (wipeE e3 vs) := by
  simp only [lcL, h1, h2, h3]
  rw [if_pos ⟨h4, h5⟩]
theorem lcL_no {g : D → Env → Option Env} {vs : List Nat} {t : M Bool} {m : ME} {acc ds : List D} {d : D} {env e1 e2 : Env} (h1 : g d env = some e1) (h2 : t e1 = some (.ok false e2)) (h5 : vs.all (plainSl e2) = true) : lcL g vs t m (d :: ds) acc env = lcL g vs t m ds acc (wipeE e2 vs) := by
  simp only [lcL, h1, h2]
  rw [if_pos h5]
theorem lcL_all {g : D → Env → Option Env} {vs : List Nat} {t : M Bool} {m : ME} {p : D → Bool} {f : D → D} {E0 : Env} {E1 : D → Env} : ∀ (ds acc : List D), acc.length + ds.length ≤ sizeLine → (∀ d ∈ ds, g d E0 = some (E1 d)) → (∀ d ∈ ds, t (E1 d) = some (.ok (p d) (E1 d))) → (∀ d ∈ ds, p d = true → mD m (E1 d) = some (.ok (f d) (E1 d))) → (∀ d ∈ ds, vs.all (plainSl (E1 d)) = true) → (∀ d ∈ ds, wipeE (E1 d) vs = E0) → lcL g vs t m ds acc E0 = some (acc ++ (ds.filter p).map f, E0)
  | [], acc, _, _, _, _, _, _ => by simp [lcL]
  | d :: ds, acc, h, h1, h2, h3, h4, h5 => by
    simp only [List.length_cons] at h
    have a := List.mem_cons_self (a := d) (l := ds)
    have r : ∀ x ∈ ds, x ∈ d :: ds := fun x hx => List.mem_cons_of_mem _ hx
    cases hp : p d with
    | true =>
      rw [lcL_yes (h1 d a) (by rw [h2 d a, hp]) (h3 d a hp) (by omega) (h4 d a), h5 d a, lcL_all ds _ (by simp; omega) (fun x hx => h1 x (r x hx)) (fun x hx => h2 x (r x hx)) (fun x hx => h3 x (r x hx)) (fun x hx => h4 x (r x hx)) (fun x hx => h5 x (r x hx)), List.filter_cons_of_pos hp]
      simp
    | false =>
      rw [lcL_no (h1 d a) (by rw [h2 d a, hp]) (h4 d a), h5 d a, lcL_all ds _ (by omega) (fun x hx => h1 x (r x hx)) (fun x hx => h2 x (r x hx)) (fun x hx => h3 x (r x hx)) (fun x hx => h4 x (r x hx)) (fun x hx => h5 x (r x hx)), List.filter_cons_of_neg (by simp [hp])]
def kLc (g : D → Env → Option Env) (vs : List Nat) (t : M Bool) (m : ME) (z : Src) : ME := fun env => if vs.all (plainSl env) = true then
  match z.2 with
  | some _ => none
  | none => match lcL g vs t m z.1 [] (wipeE env vs) with
    | some (acc, e) => some (.ok (.new (.lst acc)) (unwipe env e vs))
    | none => none
  else none
theorem mLc_ap {it : M Src} {g : D → Env → Option Env} {vs : List Nat} {t : M Bool} {m : ME} {env : Env} : mLc it g vs t m env = bndR (it env) (kLc g vs t m) := rfl
theorem kLc_ap {g : D → Env → Option Env} {vs : List Nat} {t : M Bool} {m : ME} {env e : Env} {ds acc : List D} (h : vs.all (plainSl env) = true) (q : lcL g vs t m ds [] (wipeE env vs) = some (acc, e)) : kLc g vs t m (ds, none) env = some (.ok (.new (.lst acc)) (unwipe env e vs)) := by
  unfold kLc
  rw [if_pos h]
  simp only [q]
theorem set_same {α : Type} {l : List α} {i : Nat} {x : α} (h : l[i]? = some x) : l.set i x = l := by
  apply List.ext_getElem?
  intro j
  by_cases e : i = j
  · subst e
    rw [List.getElem?_set_self (List.getElem?_eq_some_iff.mp h).1, h]
  · rw [List.getElem?_set_ne e]
/-- one name, nothing changed -/
theorem lc_one {v : Nat} {t : M Bool} {m : ME} {p : D → Bool} {f : D → D} {env : Env} {s : Sl} {ds : List D} (hs : env[v]? = some s) (hp : s = .no ∨ ∃ d, s = .fz d) (hl : ds.length ≤ sizeLine) (h2 : ∀ d ∈ ds, t (env.set v (.fz d)) = some (.ok (p d) (env.set v (.fz d)))) (h3 : ∀ d ∈ ds, p d = true → mD m (env.set v (.fz d)) = some (.ok (f d) (env.set v (.fz d)))) : kLc (gNm v) [v] t m (ds, none) env = some (.ok (.new (.lst ((ds.filter p).map f))) env) := by
  have lt := (List.getElem?_eq_some_iff.mp hs).1
  have pl : [v].all (plainSl env) = true := by
    simp only [List.all_cons, List.all_nil, plainSl, hs, Bool.and_true]
    rcases hp with rfl | ⟨d, rfl⟩ <;> rfl
  have w : wipeE env [v] = env.set v .no := rfl
  rw [kLc_ap pl (by
    rw [w]
    refine lcL_all (p := p) (f := f) (E1 := fun d => env.set v (.fz d)) ds [] (by simpa using hl) (fun d hd => ?_) h2 h3 (fun d hd => ?_) (fun d hd => ?_)
    · show setSl (env.set v .no) v (.val d) = _
      unfold setSl
      rw [if_pos (by rw [List.getElem?_set_self lt]; rfl)]
      show some ((env.set v .no).set v (.fz d)) = _
      rw [List.set_set]
    · simp only [List.all_cons, List.all_nil, plainSl, List.getElem?_set_self lt, Bool.and_true]
    · show (env.set v (.fz d)).set v .no = _
      rw [List.set_set])]
  have u : unwipe env (env.set v .no) [v] = env := by
    simp only [unwipe, hs]
    rw [List.set_set, set_same hs]
  rw [u]
  rfl
theorem lc_map {v : Nat} {m : ME} {f : D → D} {env : Env} {s : Sl} {ds : List D} (hs : env[v]? = some s) (hp : s = .no ∨ ∃ d, s = .fz d) (hl : ds.length ≤ sizeLine) (h3 : ∀ d ∈ ds, mD m (env.set v (.fz d)) = some (.ok (f d) (env.set v (.fz d)))) : kLc (gNm v) [v] mYes m (ds, none) env = some (.ok (.new (.lst (ds.map f))) env) := by
  have := lc_one (p := fun _ => true) (f := f) (t := mYes) hs hp hl (fun _ _ => rfl) fun d hd _ => h3 d hd
  rwa [List.filter_eq_self.mpr fun _ _ => rfl] at this
theorem allF_bl (bs : List Bool) : allF [.lst (bs.map .bl)] = val (.bl (bs.all id)) := by simp [allF, blsOf, blsD_map]
theorem anyF_bl (bs : List Bool) : anyF [.lst (bs.map .bl)] = val (.bl (bs.any id)) := by simp [anyF, blsOf, blsD_map]
theorem allF_f {α : Type} (f : α → Bool) (xs : List α) : allF [.lst (xs.map fun x => D.bl (f x))] = val (.bl (xs.all f)) := by
  have := allF_bl (xs.map f)
  rw [List.map_map] at this
  rw [show (xs.map fun x => D.bl (f x)) = xs.map (D.bl ∘ f) from rfl, this, List.all_map]
  rfl
theorem anyF_f {α : Type} (f : α → Bool) (xs : List α) : anyF [.lst (xs.map fun x => D.bl (f x))] = val (.bl (xs.any f)) := by
  have := anyF_bl (xs.map f)
  rw [List.map_map] at this
  rw [show (xs.map fun x => D.bl (f x)) = xs.map (D.bl ∘ f) from rfl, this, List.any_map]
  rfl
end PL

/-! PL: slices and ranges, evaluated. -/
namespace PL
open PySem L2
theorem sIx_nn (n d : Nat) {k : Int} (h : 0 ≤ k) : HT.sIx n d (some k) = min k.toNat n := by
  unfold HT.sIx
  simp only
  split <;> omega
theorem sIx_none (n d : Nat) : HT.sIx n d none = d := rfl
theorem cutD_lo {ds : List D} {k : Int} (h : 0 ≤ k) : cutD ds (some k) none = ds.drop k.toNat := by
  unfold cutD
  rw [sIx_nn _ _ h, sIx_none]
  rw [List.take_of_length_le (by simp)]
  by_cases q : k.toNat ≤ ds.length
  · rw [Nat.min_eq_left q]
  · rw [Nat.min_eq_right (by omega), List.drop_of_length_le (Nat.le_refl _), List.drop_of_length_le (by omega)]
theorem cutD_hi {ds : List D} {k : Int} (h : 0 ≤ k) : cutD ds none (some k) = ds.take k.toNat := by
  unfold cutD
  rw [sIx_nn _ _ h, sIx_none, List.drop_zero, Nat.sub_zero]
  by_cases q : k.toNat ≤ ds.length
  · rw [Nat.min_eq_left q]
  · rw [Nat.min_eq_right (by omega), List.take_of_length_le (Nat.le_refl _), List.take_of_length_le (by omega)]
theorem cutD_mid {ds : List D} {a b : Int} (ha : 0 ≤ a) (hb : 0 ≤ b) : cutD ds (some a) (some b) = (ds.drop a.toNat).take (b.toNat - a.toNat) := by
  unfold cutD
  rw [sIx_nn _ _ ha, sIx_nn _ _ hb]
  by_cases q : a.toNat ≤ ds.length
  · rw [Nat.min_eq_left q]
    by_cases r : b.toNat ≤ ds.length
    · rw [Nat.min_eq_left r]
    · rw [Nat.min_eq_right (show ds.length ≤ b.toNat by omega), List.take_of_length_le (by simp), List.take_of_length_le (by simp; omega)]
  · rw [Nat.min_eq_right (show ds.length ≤ a.toNat by omega), List.drop_of_length_le (Nat.le_refl _), List.drop_of_length_le (show ds.length ≤ a.toNat by omega)]
    simp
theorem cutD_m1 {ds : List D} : cutD ds none (some (-1)) = ds.take (ds.length - 1) := by
  unfold cutD
  rw [sIx_none, List.drop_zero, Nat.sub_zero]
  congr 1
  unfold HT.sIx
  simp only
  split <;> omega
theorem rng1_ok {j : Int} (h1 : -(2 ^ 62) ≤ j) (h2 : j < 2 ^ 62) : rng1 [j] = some (rngD 0 j.toNat, none) := by
  unfold rng1
  simp only
  rw [if_pos ⟨h1, h2⟩]
theorem rng2_ok {i j : Int} (h1 : -(2 ^ 62) ≤ i ∧ i < 2 ^ 62) (h2 : -(2 ^ 62) ≤ j ∧ j < 2 ^ 62) : rng2 [i, j] = some (rngD i (j - i).toNat, none) := by
  unfold rng2
  simp only
  rw [if_pos ⟨h1.1, h1.2, h2.1, h2.2⟩]
theorem rng3_down {i j : Int} (h1 : -(2 ^ 62) ≤ i ∧ i < 2 ^ 62) (h2 : -(2 ^ 62) ≤ j ∧ j < 2 ^ 62) : rng3 [i, j, -1] = some (rngC i (-1) (i - j).toNat, none) := by
  unfold rng3
  simp only
  rw [if_pos ⟨trivial, h1.1, h1.2, h2.1, h2.2⟩]
theorem kR_r1 {j : Int} {env : Env} (h1 : -(2 ^ 62) ≤ j) (h2 : j < 2 ^ 62) : kR rng1 (some [j]) env = some (.ok (rngD 0 j.toNat, none) env) := kR_some (rng1_ok h1 h2)
theorem kR_r2 {i j : Int} {env : Env} (h1 : -(2 ^ 62) ≤ i) (h2 : i < 2 ^ 62) (h3 : -(2 ^ 62) ≤ j) (h4 : j < 2 ^ 62) : kR rng2 (some [i, j]) env = some (.ok (rngD i (j - i).toNat, none) env) := kR_some (rng2_ok ⟨h1, h2⟩ ⟨h3, h4⟩)
theorem kR_r3d {i j : Int} {env : Env} (h1 : -(2 ^ 62) ≤ i) (h2 : i < 2 ^ 62) (h3 : -(2 ^ 62) ≤ j) (h4 : j < 2 ^ 62) : kR rng3 (some [i, j, -1]) env = some (.ok (rngC i (-1) (i - j).toNat, none) env) := kR_some (rng3_down ⟨h1, h2⟩ ⟨h3, h4⟩)
theorem len_rep {α : Type} (a : List α) : ∀ n : Nat, (List.replicate n a).flatten.length = n * a.length
  | 0 => by simp
  | n + 1 => by rw [List.replicate_succ, List.flatten_cons, List.length_append, len_rep a n, Nat.add_mul]; omega
theorem flat_one {α : Type} (x : α) : ∀ n : Nat, (List.replicate n [x]).flatten = List.replicate n x
  | 0 => rfl
  | n + 1 => by rw [List.replicate_succ, List.flatten_cons, flat_one x n]; rfl
theorem mulF_l1 {x : D} {n : Nat} (h : n ≤ sizeLine) : mulF (.lst [x]) (.int n) = new (.lst (List.replicate n x)) := by
  unfold mulF
  simp only
  rw [if_pos ⟨by omega, by rw [sizeLine_eq] at h; omega, by simpa using h⟩, Int.toNat_natCast, flat_one]
theorem mulF_t1 {x : D} {n : Nat} (h : 2 ≤ n) (h2 : n ≤ 1000) : mulF (.tup [x]) (.int n) = val (.tup (List.replicate n x)) := by
  unfold mulF
  simp only
  rw [if_pos ⟨by simp, by omega, by omega, by simp⟩, Int.toNat_natCast, flat_one]
/-! ### rounds over ranges -/
theorem rngD_nil (lo : Int) : rngD lo 0 = [] := rfl
theorem rngD_cons (lo : Int) (n : Nat) : rngD lo (n + 1) = .int lo :: rngD (lo + 1) n := by
  unfold rngD
  rw [List.range_succ_eq_map]
  simp only [List.map_cons, List.map_map, Function.comp_def]
  congr 1
  · simp
  · apply List.map_congr_left
    intro k _
    congr 1
    omega
theorem rngC_nil (lo c : Int) : rngC lo c 0 = [] := rfl
theorem rngC_cons (lo c : Int) (n : Nat) : rngC lo c (n + 1) = .int lo :: rngC (lo + c) c n := by
  unfold rngC
  rw [List.range_succ_eq_map]
  simp only [List.map_cons, List.map_map, Function.comp_def]
  congr 1
  · simp
  · apply List.map_congr_left
    intro k _
    congr 1
    rw [show ((k.succ : Nat) : Int) = k + 1 from rfl, Int.add_mul]
    omega
/-- a loop whose turns all go on -/
theorem forF_inv {g : D → Env → Option Env} {b : MS} {I : Nat → Env → Prop} : ∀ {ds : List D} {k : Nat} {env : Env}, I k env → (∀ j e (h : j < ds.length), I (k + j) e → ∃ e1 e2, g ds[j] e = some e1 ∧ b e1 = some (.ok .nx e2) ∧ I (k + j + 1) e2) → ∃ e, forF g b ds env = some (.ok .nx e) ∧ I (k + ds.length) e
  | [], k, env, h, _ => ⟨env, rfl, h⟩
  | d :: ds, k, env, h, step => by
    obtain ⟨e1, e2, q1, q2, q3⟩ := step 0 env (by simp) h
    obtain ⟨e, r1, r2⟩ := forF_inv (ds := ds) (k := k + 1) (I := I) q3 fun j e hj hi => by
      obtain ⟨a, b, c1, c2, c3⟩ := step (j + 1) e (by simp; omega) (by rw [show k + (j + 1) = k + 1 + j by omega]; exact hi)
      exact ⟨a, b, c1, c2, by rw [show k + 1 + j + 1 = k + (j + 1) + 1 by omega]; exact c3⟩
    refine ⟨e, ?_, by rw [List.length_cons, show k + (ds.length + 1) = k + 1 + ds.length by omega]; exact r2⟩
    rw [forF_cons, show g d env = some e1 from q1, kFor_some, q2]
    exact r1
/-- the invariant, without the count -/
theorem forF_keep {g : D → Env → Option Env} {b : MS} {I : Env → Prop} {ds : List D} {env : Env} (h : I env) (step : ∀ d ∈ ds, ∀ e, I e → ∃ e1 e2, g d e = some e1 ∧ b e1 = some (.ok .nx e2) ∧ I e2) : ∃ e, forF g b ds env = some (.ok .nx e) ∧ I e := by
  obtain ⟨e, h1, h2⟩ := forF_inv (I := fun _ e => I e) (k := 0) (ds := ds) (env := env) (g := g) (b := b) h fun j e hj hi => step _ (List.getElem_mem _) e hi
  exact ⟨e, h1, h2⟩
end PL

namespace PL
/-! The plain law of terms: open places and the ends of parts (no program in sight). -/
/-- k parts are still to come: does the list have just them? -/
def shp : Nat → List Int → Bool
  | 0, [] => true
  | 0, _ :: _ => false
  | _ + 1, [] => false
  | k + 1, c :: cs => shp (if c = 0 then k + 2 else if 0 < c then k else k + 1) cs
/-- how many codes the first k parts take -/
def cut : Nat → List Int → Option Nat
  | 0, _ => some 0
  | _ + 1, [] => none
  | k + 1, c :: cs => (cut (if c = 0 then k + 2 else if 0 < c then k else k + 1) cs).map (· + 1)
theorem cut_le : ∀ (l : List Int) (k n : Nat), cut k l = some n → n ≤ l.length
  | l, 0, n, h => by simp [cut] at h; omega
  | [], k + 1, n, h => by simp [cut] at h
  | c :: cs, k + 1, n, h => by
    simp only [cut, Option.map_eq_some_iff] at h
    obtain ⟨m, h1, rfl⟩ := h
    have := cut_le cs _ m h1
    simp; omega
theorem cut_pos {l : List Int} {k n : Nat} (h : cut (k + 1) l = some n) : 0 < n := by
  cases l with
  | nil => simp [cut] at h
  | cons c cs =>
    simp only [cut, Option.map_eq_some_iff] at h
    obtain ⟨m, h1, rfl⟩ := h
    omega
theorem shp_cut : ∀ (l : List Int) (k : Nat), shp k l = true ↔ cut k l = some l.length
  | [], 0 => by simp [shp, cut]
  | _ :: _, 0 => by simp [shp, cut]
  | [], k + 1 => by simp [shp, cut]
  | c :: cs, k + 1 => by
    simp only [shp, cut, shp_cut cs, Option.map_eq_some_iff, List.length_cons]
    constructor
    · intro h; exact ⟨_, h, rfl⟩
    · rintro ⟨m, h, e⟩; rw [h]; congr; omega
theorem cut_take : ∀ (l : List Int) (k n : Nat), cut k l = some n → cut k (l.take n) = some n
  | l, 0, n, h => by simp [cut] at h; subst h; rfl
  | [], k + 1, n, h => by simp [cut] at h
  | c :: cs, k + 1, n, h => by
    simp only [cut, Option.map_eq_some_iff] at h
    obtain ⟨m, h1, rfl⟩ := h
    simp only [List.take_succ_cons, cut, cut_take cs _ m h1, Option.map_some]
theorem cut_mono : ∀ (l r : List Int) (k n : Nat), cut k l = some n → cut k (l ++ r) = some n
  | l, r, 0, n, h => by simpa [cut] using h
  | [], r, k + 1, n, h => by simp [cut] at h
  | c :: cs, r, k + 1, n, h => by
    simp only [cut, Option.map_eq_some_iff] at h
    obtain ⟨m, h1, rfl⟩ := h
    simp only [List.cons_append, cut, cut_mono cs r _ m h1, Option.map_some]
theorem cut_add : ∀ (l : List Int) (j k : Nat), cut (j + k) l = (cut j l).bind fun n => (cut k (l.drop n)).map (n + ·)
  | l, 0, k => by simp [cut]
  | [], j + 1, k => by rw [show j + 1 + k = (j + k) + 1 by omega]; simp [cut]
  | c :: cs, j + 1, k => by
    rw [show j + 1 + k = (j + k) + 1 by omega]
    simp only [cut]
    rw [show (if c = 0 then j + k + 2 else if 0 < c then j + k else j + k + 1) = (if c = 0 then j + 2 else if 0 < c then j else j + 1) + k by split <;> (try split) <;> omega, cut_add cs]
    cases cut (if c = 0 then j + 2 else if 0 < c then j else j + 1) cs with
    | none => rfl
    | some m =>
      simp only [Option.bind_some, Option.map_some, List.drop_succ_cons]
      cases cut k (cs.drop m) with
      | none => rfl
      | some m2 => simp; omega
/-- the open places ahead of a part -/
theorem shp_at : ∀ (a b : List Int) (k : Nat), shp k (a ++ b) = true → b ≠ [] → ∃ j, shp (j + 1) b = true
  | [], b, k, h, hb => by
    cases k with
    | zero => cases b with
      | nil => exact absurd rfl hb
      | cons _ _ => simp [shp] at h
    | succ k => exact ⟨k, h⟩
  | a :: as, b, k, h, hb => by
    cases k with
    | zero => simp [shp] at h
    | succ k => exact shp_at as b _ (by simpa [shp] using h) hb
/-- each place of a term has a part -/
theorem part_at {t : List Int} {k p : Nat} (h : shp k t = true) (hp : p < t.length) : ∃ n, 0 < n ∧ p + n ≤ t.length ∧ cut 1 (t.drop p) = some n := by
  obtain ⟨j, hj⟩ := shp_at (t.take p) (t.drop p) k (by rwa [List.take_append_drop]) (by simp; omega)
  have e := (shp_cut _ _).mp hj
  rw [show j + 1 = 1 + j by omega, cut_add] at e
  cases q : cut 1 (t.drop p) with
  | none => rw [q] at e; simp at e
  | some n =>
    have := cut_le _ _ _ q
    simp at this
    exact ⟨n, cut_pos q, by omega, rfl⟩
/-- the end of the part at a place -/
def pend (t : List Int) (p : Nat) : Nat := p + ((cut 1 (t.drop p)).getD 0)
theorem pend_eq {t : List Int} {p n : Nat} (h : cut 1 (t.drop p) = some n) : pend t p = p + n := by simp [pend, h]
theorem drop_one {t : List Int} {p : Nat} (hp : p < t.length) : t.drop p = t[p] :: t.drop (p + 1) := List.drop_eq_getElem_cons hp
theorem pend_var {t : List Int} {p : Nat} (hp : p < t.length) (h : 0 < t[p]) : pend t p = p + 1 := by
  apply pend_eq
  rw [drop_one hp]
  simp only [cut]
  rw [if_neg (by omega), if_pos h]
  simp [cut]
theorem pend_fun {t : List Int} {k p : Nat} (hs : shp k t = true) (hp : p < t.length) (h : t[p] < 0) : p + 1 < t.length ∧ pend t p = pend t (p + 1) := by
  obtain ⟨n, h1, h2, h3⟩ := part_at hs hp
  have h3' := h3
  rw [drop_one hp] at h3
  simp only [cut] at h3
  rw [if_neg (by omega), if_neg (by omega), Option.map_eq_some_iff] at h3
  obtain ⟨m, q1, q2⟩ := h3
  have := cut_pos q1
  have l := cut_le _ _ _ q1
  simp at l
  exact ⟨by omega, by rw [pend_eq h3', pend_eq q1]; omega⟩
theorem pend_call {t : List Int} {k p : Nat} (hs : shp k t = true) (hp : p < t.length) (h : t[p] = 0) : p + 1 < t.length ∧ pend t (p + 1) < t.length ∧ pend t p = pend t (pend t (p + 1)) := by
  obtain ⟨n, h1, h2, h3⟩ := part_at hs hp
  have h3' := h3
  rw [drop_one hp] at h3
  simp only [cut] at h3
  rw [if_pos h, Option.map_eq_some_iff] at h3
  obtain ⟨m, q1, q2⟩ := h3
  rw [show 0 + 2 = 1 + 1 by omega, cut_add] at q1
  cases r1 : cut 1 (t.drop (p + 1)) with
  | none => rw [r1] at q1; simp at q1
  | some n1 =>
    rw [r1] at q1
    simp only [Option.bind_some, List.drop_drop, Option.map_eq_some_iff] at q1
    obtain ⟨n2, r2, e2⟩ := q1
    have p1 := cut_pos r1
    have p2 := cut_pos r2
    have l2 := cut_le _ _ _ r2
    simp at l2
    refine ⟨by omega, by rw [pend_eq r1]; omega, ?_⟩
    rw [pend_eq h3', pend_eq r1]
    rw [pend_eq r2]
    omega
theorem pend_le {t : List Int} {k p : Nat} (hs : shp k t = true) (hp : p < t.length) : p < pend t p ∧ pend t p ≤ t.length := by
  obtain ⟨n, h1, h2, h3⟩ := part_at hs hp
  rw [pend_eq h3]
  omega
/-- a part -/
def prt (t : List Int) (p : Nat) : List Int := (t.drop p).take (pend t p - p)
theorem prt_shp {t : List Int} {k p : Nat} (hs : shp k t = true) (hp : p < t.length) : shp 1 (prt t p) = true := by
  obtain ⟨n, h1, h2, h3⟩ := part_at hs hp
  unfold prt
  rw [pend_eq h3, shp_cut, show p + n - p = n by omega, cut_take _ _ _ h3]
  simp; omega
theorem prt_length {t : List Int} {k p : Nat} (hs : shp k t = true) (hp : p < t.length) : (prt t p).length = pend t p - p := by
  have := pend_le hs hp
  unfold prt
  simp; omega
theorem prt_drop {t : List Int} {p i : Nat} : (prt t p).drop i = (t.drop (p + i)).take (pend t p - p - i) := by
  unfold prt
  rw [List.drop_take, List.drop_drop]
/-- parts of a part -/
theorem prt_in {t : List Int} {k p i : Nat} (hs : shp k t = true) (hp : p < t.length) (hi : i < (prt t p).length) : pend (prt t p) i + p = pend t (p + i) ∧ pend t (p + i) ≤ pend t p ∧ prt (prt t p) i = prt t (p + i) := by
  obtain ⟨n, h1, h2, h3⟩ := part_at (prt_shp hs hp) hi
  have l := prt_length hs hp
  have le := pend_le hs hp
  have e : cut 1 (t.drop (p + i)) = some n := by
    have := cut_mono _ ((t.drop (p + i)).drop (pend t p - p - i)) _ _ h3
    rwa [prt_drop, List.take_append_drop] at this
  refine ⟨by rw [pend_eq h3, pend_eq e]; omega, by rw [pend_eq e]; omega, ?_⟩
  show ((prt t p).drop i).take (pend (prt t p) i - i) = (t.drop (p + i)).take (pend t (p + i) - (p + i))
  rw [pend_eq h3, pend_eq e, prt_drop, List.take_take]
  congr 1
  omega
theorem prt_zero {t : List Int} (hs : shp 1 t = true) : prt t 0 = t := by
  have e := (shp_cut _ _).mp hs
  have : pend t 0 = t.length := by rw [pend_eq (n := t.length) (by simpa using e)]; simp
  unfold prt
  rw [this]
  simp
end PL

namespace PL
open PySem L2
noncomputable def w_is_shaped_1 : MS :=
  mSeq (mIte (mTest (mBin eqF (mVar 1) (mC (.int 0)))) (mRet (mC (.bl false))) (mSkip))
  (mIte (mTest (mBin eqF (mVar 2) (mC (.int 0)))) (mAug 1 (fI0 fun i j => .int (i + j)) (mC (.int 1))) (mIte (mTest (mBin gtF (mVar 2) (mC (.int 0)))) (mAug 1 (fI0 fun i j => .int (i - j)) (mC (.int 1))) (mSkip)))
theorem w_is_shaped_1_ap {env : Env} : w_is_shaped_1 env = (mSeq (mIte (mTest (mBin eqF (mVar 1) (mC (.int 0)))) (mRet (mC (.bl false))) (mSkip))
  (mIte (mTest (mBin eqF (mVar 2) (mC (.int 0)))) (mAug 1 (fI0 fun i j => .int (i + j)) (mC (.int 1))) (mIte (mTest (mBin gtF (mVar 2) (mC (.int 0)))) (mAug 1 (fI0 fun i j => .int (i - j)) (mC (.int 1))) (mSkip)))) env := rfl
noncomputable def b_is_shaped : MS :=
  mSeq (mSet 1 (mC (.int 1)))
  (mSeq (mFor (mItems (mVar 0)) (gNm 2) w_is_shaped_1)
  (mRet (mBin eqF (mVar 1) (mC (.int 0)))))
noncomputable def s_is_shaped : Sem' := semFn 1 3 b_is_shaped
noncomputable def b_is_whole_number : MS :=
  mRet (mAndV (mCallB isiF (mRCons (mVar 0) (mRCons (mC (.oth (.ty "int"))) (mRNil)))) (mUn notF (mCallB isiF (mRCons (mVar 0) (mRCons (mC (.oth (.ty "bool"))) (mRNil))))))
noncomputable def s_is_whole_number : Sem' := semFn 1 1 b_is_whole_number
noncomputable def b_is_within : MS :=
  mRet (mAndV (mCall s_is_whole_number (mACons false (mVar 0) (mANil))) (mChain leF leF (mVar 1) (mVar 0) (mVar 2)))
noncomputable def s_is_within : Sem' := semFn 3 3 b_is_within
noncomputable def e_is_term_in_1 : ME :=
  mCall s_is_within (mACons false (mVar 1) (mACons false (mC (.int (-1))) (mACons false (mC (.int 1000)) (mANil))))
theorem e_is_term_in_1_ap {env : Env} : e_is_term_in_1 env = (mCall s_is_within (mACons false (mVar 1) (mACons false (mC (.int (-1))) (mACons false (mC (.int 1000)) (mANil))))) env := rfl
noncomputable def b_is_term_in : MS :=
  mSeq (mIte (mOrT (mNotT (mTruth (mCallB isiF (mRCons (mVar 0) (mRCons (mC (.oth (.ty "tuple"))) (mRNil)))))) (mNotT (mTest (mChain leF leF (mC (.int 1)) (mCallB lenF (mRCons (mVar 0) (mRNil))) (mC (.int 400)))))) (mRet (mC (.bl false))) (mSkip))
  (mRet (mAndV (mCallB allF (mRCons (mLc (mItems (mVar 0)) (gNm 1) [1] (mYes) (e_is_term_in_1)) (mRNil))) (mCall s_is_shaped (mACons false (mVar 0) (mANil)))))
noncomputable def s_is_term_in : Sem' := semFn 1 2 b_is_term_in
noncomputable def b_is_term : MS :=
  mRet (mCall s_is_term_in (mACons false (mVar 0) (mANil)))
noncomputable def s_is_term : Sem' := semFn 1 1 b_is_term
noncomputable def b_require_term : MS :=
  mIte (mNotT (mTruth (mCall s_is_term_in (mACons false (mVar 0) (mANil))))) (stuck) (mSkip)
noncomputable def s_require_term : Sem' := semFn 1 1 b_require_term
noncomputable def b_is_place_in : MS :=
  mRet (mCall s_is_within (mACons false (mVar 1) (mACons false (mC (.int 0)) (mACons false (mBin subF (mCallB lenF (mRCons (mVar 0) (mRNil))) (mC (.int 1))) (mANil)))))
noncomputable def s_is_place_in : Sem' := semFn 2 2 b_is_place_in
noncomputable def b_require_place : MS :=
  mIte (mNotT (mTruth (mCall s_is_place_in (mACons false (mVar 0) (mACons false (mVar 1) (mANil)))))) (stuck) (mSkip)
noncomputable def s_require_place : Sem' := semFn 2 2 b_require_place
noncomputable def b_require_term_place : MS :=
  mSeq (mExpr (mCall s_require_term (mACons false (mVar 0) (mANil))))
  (mExpr (mCall s_require_place (mACons false (mVar 0) (mACons false (mVar 1) (mANil)))))
noncomputable def s_require_term_place : Sem' := semFn 2 2 b_require_term_place
noncomputable def c_part_end_in_1 : M Bool :=
  mTest (mBin gtF (mVar 2) (mC (.int 0)))
theorem c_part_end_in_1_ap {env : Env} : c_part_end_in_1 env = (mTest (mBin gtF (mVar 2) (mC (.int 0)))) env := rfl
noncomputable def w_part_end_in_1 : MS :=
  mSeq (mSet 4 (mBin ixF (mVar 0) (mVar 3)))
  (mPar [2, 3] (mPCons (mBin subF (mBin addF (mVar 2) (mCallB intF (mRCons (mBin eqF (mVar 4) (mC (.int 0))) (mRNil)))) (mCallB intF (mRCons (mBin gtF (mVar 4) (mC (.int 0))) (mRNil)))) (mPCons (mBin addF (mVar 3) (mC (.int 1))) (mPNil))))
theorem w_part_end_in_1_ap {env : Env} : w_part_end_in_1 env = (mSeq (mSet 4 (mBin ixF (mVar 0) (mVar 3)))
  (mPar [2, 3] (mPCons (mBin subF (mBin addF (mVar 2) (mCallB intF (mRCons (mBin eqF (mVar 4) (mC (.int 0))) (mRNil)))) (mCallB intF (mRCons (mBin gtF (mVar 4) (mC (.int 0))) (mRNil)))) (mPCons (mBin addF (mVar 3) (mC (.int 1))) (mPNil))))) env := rfl
noncomputable def b_part_end_in : MS :=
  mSeq (mPar [2, 3] (mPCons (mC (.int 1)) (mPCons (mVar 1) (mPNil))))
  (mSeq (mWhile c_part_end_in_1 w_part_end_in_1)
  (mRet (mVar 3)))
noncomputable def s_part_end_in : Sem' := semFn 2 5 b_part_end_in
noncomputable def b_part_end : MS :=
  mSeq (mExpr (mCall s_require_term_place (mACons false (mVar 0) (mACons false (mVar 1) (mANil)))))
  (mRet (mCall s_part_end_in (mACons false (mVar 0) (mACons false (mVar 1) (mANil)))))
noncomputable def s_part_end : Sem' := semFn 2 2 b_part_end
noncomputable def b_part_in : MS :=
  mRet (mSl (mVar 0) (mPart (mVar 1)) (mPart (mCall s_part_end_in (mACons false (mVar 0) (mACons false (mVar 1) (mANil))))))
noncomputable def s_part_in : Sem' := semFn 2 2 b_part_in
noncomputable def b_part_of : MS :=
  mSeq (mExpr (mCall s_require_term_place (mACons false (mVar 0) (mACons false (mVar 1) (mANil)))))
  (mRet (mCall s_part_in (mACons false (mVar 0) (mACons false (mVar 1) (mANil)))))
noncomputable def s_part_of : Sem' := semFn 2 2 b_part_of
noncomputable def b__law_roll : MS :=
  mSeq (mSet 2 (mCallB intF (mRCons (mVar 1) (mRNil))))
  (mSeq (mIte (mTest (mBin gtF (mBin ixF (mVar 0) (mC (.int 0))) (mC (.int 0)))) (mSeq (mSet 3 (mBin modF (mBin ixF (mVar 0) (mC (.int 0))) (mVar 2)))
  (mSeq (mSetIx 0 (mC (.int 0)) (mBin divF (mBin ixF (mVar 0) (mC (.int 0))) (mVar 2)))
  (mRet (mCallB intF (mRCons (mVar 3) (mRNil)))))) (mSkip))
  (mSeq (mSetIx 0 (mC (.int 2)) (mBin addF (mBin ixF (mVar 0) (mC (.int 2))) (mC (.int 1))))
  (mSeq (mSet 4 (mBin modF (mBin addF (mBin ixF (mVar 0) (mC (.int 1))) (mBin mulF (mC (.int 1000403)) (mBin ixF (mVar 0) (mC (.int 2))))) (mC (.int 2305843009213693951))))
  (mSeq (mSet 5 (mBin addF (mBin mulF (mBin modF (mBin mulF (mVar 4) (mVar 4)) (mC (.int 2305843009213693921))) (mVar 4)) (mBin mulF (mC (.int 9521)) (mBin ixF (mVar 0) (mC (.int 2))))))
  (mSeq (mSet 5 (mBin modF (mVar 5) (mC (.int 2305843009213693907))))
  (mRet (mCallB intF (mRCons (mBin modF (mBin divF (mVar 5) (mC (.int 4096))) (mVar 2)) (mRNil)))))))))
noncomputable def s__law_roll : Sem' := semFn 2 6 b__law_roll
noncomputable def c__law_term_drawn_1 : M Bool :=
  mTest (mBin neF (mVar 4) (mLst (mNil)))
theorem c__law_term_drawn_1_ap {env : Env} : c__law_term_drawn_1 env = (mTest (mBin neF (mVar 4) (mLst (mNil)))) env := rfl
noncomputable def w__law_term_drawn_1 : MS :=
  mSeq (mAsg (gTp 2 (gsCons (gNm 5) (gsCons (gNm 6) (gsNil)))) (mPop 4))
  (mSeq (mSet 7 (mBin addF (mVar 6) (mVar 2)))
  (mIte (mAndT (mTest (mBin leF (mVar 5) (mC (.int 1)))) (mTest (mBin gtF (mVar 7) (mC (.int 0))))) (mExpr (mAppend 3 (mBin addF (mC (.int 1)) (mCallB min2F (mRCons (mCall s__law_roll (mACons true (mVar 0) (mACons false (mVar 7) (mANil)))) (mRCons (mCall s__law_roll (mACons true (mVar 0) (mACons false (mVar 7) (mANil)))) (mRNil))))))) (mIte (mOrT (mTest (mBin leF (mVar 5) (mC (.int 2)))) (mAndT (mTest (mBin eqF (mVar 7) (mC (.int 0)))) (mTest (mBin ltF (mVar 5) (mC (.int 4)))))) (mSeq (mExpr (mAppend 3 (mC (.int (-1)))))
  (mExpr (mAppend 4 (mTup (mCons (mBin subF (mVar 5) (mC (.int 1))) (mCons (mBin addF (mVar 6) (mC (.int 1))) (mNil))))))) (mIte (mAndT (mTest (mBin geF (mVar 5) (mC (.int 4)))) (mTest (mBin ltF (mCall s__law_roll (mACons true (mVar 0) (mACons false (mC (.int 9)) (mANil)))) (mC (.int 4))))) (mSeq (mSet 8 (mBin addF (mC (.int 1)) (mCall s__law_roll (mACons true (mVar 0) (mACons false (mBin subF (mVar 5) (mC (.int 3))) (mANil))))))
  (mSeq (mExpr (mExtend 3 (mLst (mCons (mC (.int 0)) (mCons (mC (.int (-1))) (mNil))))))
  (mExpr (mExtend 4 (mLst (mCons (mTup (mCons (mBin subF (mBin subF (mVar 5) (mC (.int 2))) (mVar 8)) (mCons (mVar 6) (mNil)))) (mCons (mTup (mCons (mVar 8) (mCons (mBin addF (mVar 6) (mC (.int 1))) (mNil)))) (mNil)))))))) (mIte (mTest (mBin eqF (mCall s__law_roll (mACons true (mVar 0) (mACons false (mC (.int 4)) (mANil)))) (mC (.int 0)))) (mSeq (mExpr (mAppend 3 (mC (.int (-1)))))
  (mExpr (mAppend 4 (mTup (mCons (mBin subF (mVar 5) (mC (.int 1))) (mCons (mBin addF (mVar 6) (mC (.int 1))) (mNil))))))) (mSeq (mSet 8 (mBin addF (mC (.int 1)) (mCall s__law_roll (mACons true (mVar 0) (mACons false (mBin subF (mVar 5) (mC (.int 2))) (mANil))))))
  (mSeq (mExpr (mAppend 3 (mC (.int 0))))
  (mExpr (mExtend 4 (mLst (mCons (mTup (mCons (mBin subF (mBin subF (mVar 5) (mC (.int 1))) (mVar 8)) (mCons (mVar 6) (mNil)))) (mCons (mTup (mCons (mVar 8) (mCons (mVar 6) (mNil)))) (mNil)))))))))))))
theorem w__law_term_drawn_1_ap {env : Env} : w__law_term_drawn_1 env = (mSeq (mAsg (gTp 2 (gsCons (gNm 5) (gsCons (gNm 6) (gsNil)))) (mPop 4))
  (mSeq (mSet 7 (mBin addF (mVar 6) (mVar 2)))
  (mIte (mAndT (mTest (mBin leF (mVar 5) (mC (.int 1)))) (mTest (mBin gtF (mVar 7) (mC (.int 0))))) (mExpr (mAppend 3 (mBin addF (mC (.int 1)) (mCallB min2F (mRCons (mCall s__law_roll (mACons true (mVar 0) (mACons false (mVar 7) (mANil)))) (mRCons (mCall s__law_roll (mACons true (mVar 0) (mACons false (mVar 7) (mANil)))) (mRNil))))))) (mIte (mOrT (mTest (mBin leF (mVar 5) (mC (.int 2)))) (mAndT (mTest (mBin eqF (mVar 7) (mC (.int 0)))) (mTest (mBin ltF (mVar 5) (mC (.int 4)))))) (mSeq (mExpr (mAppend 3 (mC (.int (-1)))))
  (mExpr (mAppend 4 (mTup (mCons (mBin subF (mVar 5) (mC (.int 1))) (mCons (mBin addF (mVar 6) (mC (.int 1))) (mNil))))))) (mIte (mAndT (mTest (mBin geF (mVar 5) (mC (.int 4)))) (mTest (mBin ltF (mCall s__law_roll (mACons true (mVar 0) (mACons false (mC (.int 9)) (mANil)))) (mC (.int 4))))) (mSeq (mSet 8 (mBin addF (mC (.int 1)) (mCall s__law_roll (mACons true (mVar 0) (mACons false (mBin subF (mVar 5) (mC (.int 3))) (mANil))))))
  (mSeq (mExpr (mExtend 3 (mLst (mCons (mC (.int 0)) (mCons (mC (.int (-1))) (mNil))))))
  (mExpr (mExtend 4 (mLst (mCons (mTup (mCons (mBin subF (mBin subF (mVar 5) (mC (.int 2))) (mVar 8)) (mCons (mVar 6) (mNil)))) (mCons (mTup (mCons (mVar 8) (mCons (mBin addF (mVar 6) (mC (.int 1))) (mNil)))) (mNil)))))))) (mIte (mTest (mBin eqF (mCall s__law_roll (mACons true (mVar 0) (mACons false (mC (.int 4)) (mANil)))) (mC (.int 0)))) (mSeq (mExpr (mAppend 3 (mC (.int (-1)))))
  (mExpr (mAppend 4 (mTup (mCons (mBin subF (mVar 5) (mC (.int 1))) (mCons (mBin addF (mVar 6) (mC (.int 1))) (mNil))))))) (mSeq (mSet 8 (mBin addF (mC (.int 1)) (mCall s__law_roll (mACons true (mVar 0) (mACons false (mBin subF (mVar 5) (mC (.int 2))) (mANil))))))
  (mSeq (mExpr (mAppend 3 (mC (.int 0))))
  (mExpr (mExtend 4 (mLst (mCons (mTup (mCons (mBin subF (mBin subF (mVar 5) (mC (.int 1))) (mVar 8)) (mCons (mVar 6) (mNil)))) (mCons (mTup (mCons (mVar 8) (mCons (mVar 6) (mNil)))) (mNil)))))))))))))) env := rfl
noncomputable def b__law_term_drawn : MS :=
  mSeq (mPar [3, 4] (mPCons (mLst (mNil)) (mPCons (mLst (mCons (mTup (mCons (mVar 1) (mCons (mC (.int 0)) (mNil)))) (mNil))) (mPNil))))
  (mSeq (mWhile c__law_term_drawn_1 w__law_term_drawn_1)
  (mRet (mCallB tupleF (mRCons (mVar 3) (mRNil)))))
noncomputable def s__law_term_drawn : Sem' := semFn 3 9 b__law_term_drawn
noncomputable def w__law_ends_1 : MS :=
  mIte (mTest (mBin gtF (mBin ixF (mVar 0) (mVar 2)) (mC (.int 0)))) (mSetIx 1 (mVar 2) (mBin addF (mVar 2) (mC (.int 1)))) (mIte (mTest (mBin ltF (mBin ixF (mVar 0) (mVar 2)) (mC (.int 0)))) (mSetIx 1 (mVar 2) (mBin ixF (mVar 1) (mBin addF (mVar 2) (mC (.int 1))))) (mSetIx 1 (mVar 2) (mBin ixF (mVar 1) (mBin ixF (mVar 1) (mBin addF (mVar 2) (mC (.int 1)))))))
theorem w__law_ends_1_ap {env : Env} : w__law_ends_1 env = (mIte (mTest (mBin gtF (mBin ixF (mVar 0) (mVar 2)) (mC (.int 0)))) (mSetIx 1 (mVar 2) (mBin addF (mVar 2) (mC (.int 1)))) (mIte (mTest (mBin ltF (mBin ixF (mVar 0) (mVar 2)) (mC (.int 0)))) (mSetIx 1 (mVar 2) (mBin ixF (mVar 1) (mBin addF (mVar 2) (mC (.int 1))))) (mSetIx 1 (mVar 2) (mBin ixF (mVar 1) (mBin ixF (mVar 1) (mBin addF (mVar 2) (mC (.int 1)))))))) env := rfl
noncomputable def b__law_ends : MS :=
  mSeq (mSet 1 (mBin mulF (mLst (mCons (mC (.int 0)) (mNil))) (mCallB lenF (mRCons (mVar 0) (mRNil)))))
  (mSeq (mFor (mRng rng3 (mCons (mBin subF (mCallB lenF (mRCons (mVar 0) (mRNil))) (mC (.int 1))) (mCons (mC (.int (-1))) (mCons (mC (.int (-1))) (mNil))))) (gNm 2) w__law_ends_1)
  (mRet (mVar 1)))
noncomputable def s__law_ends : Sem' := semFn 1 3 b__law_ends
noncomputable def w__law_near_values_1 : MS :=
  mExpr (mAppend 3 (mBin addF (mBin addF (mSl (mVar 1) (mNoPart) (mPart (mVar 2))) (mTup (mCons (mVar 4) (mNil)))) (mSl (mVar 1) (mPart (mBin addF (mVar 2) (mC (.int 1)))) (mNoPart))))
theorem w__law_near_values_1_ap {env : Env} : w__law_near_values_1 env = (mExpr (mAppend 3 (mBin addF (mBin addF (mSl (mVar 1) (mNoPart) (mPart (mVar 2))) (mTup (mCons (mVar 4) (mNil)))) (mSl (mVar 1) (mPart (mBin addF (mVar 2) (mC (.int 1)))) (mNoPart))))) env := rfl
noncomputable def b__law_near_values : MS :=
  mSeq (mPar [2, 3] (mPCons (mCall s__law_roll (mACons true (mVar 0) (mACons false (mCallB lenF (mRCons (mVar 1) (mRNil))) (mANil)))) (mPCons (mLst (mCons (mVar 1) (mCons (mCallB listF (mRCons (mVar 1) (mRNil))) (mCons (mTup (mCons (mVar 1) (mNil))) (mCons (mSl (mVar 1) (mPart (mC (.int 1))) (mNoPart)) (mCons (mSl (mVar 1) (mNoPart) (mPart (mC (.int (-1))))) (mCons (mBin addF (mVar 1) (mTup (mCons (mC (.int 1)) (mNil)))) (mCons (mBin addF (mTup (mCons (mC (.int 0)) (mNil))) (mVar 1)) (mNil))))))))) (mPNil))))
  (mSeq (mFor (mItems (mTup (mCons (mC (.int (-2))) (mCons (mC (.int (-1))) (mCons (mC (.int 0)) (mCons (mC (.int 1)) (mCons (mC (.int 1000)) (mCons (mC (.int 1001)) (mCons (mC (.bl true)) (mCons (mC (.bl false)) (mCons (mC .non) (mCons (mC (.str "1")) (mCons (mBin powF (mC (.int 10)) (mC (.int 61))) (mCons (mTup (mCons (mC (.int 1)) (mNil))) (mCons (mBin addF (mC (.int 1)) (mCall s__law_roll (mACons true (mVar 0) (mACons false (mC (.int 9)) (mANil))))) (mNil)))))))))))))))) (gNm 4) w__law_near_values_1)
  (mSeq (mSet 3 (mBin addF (mVar 3) (mLst (mCons (mBin addF (mSl (mVar 1) (mNoPart) (mPart (mVar 2))) (mSl (mVar 1) (mPart (mBin addF (mVar 2) (mC (.int 1)))) (mNoPart))) (mCons (mBin addF (mBin addF (mSl (mVar 1) (mNoPart) (mPart (mVar 2))) (mTup (mCons (mC (.int 0)) (mNil)))) (mSl (mVar 1) (mPart (mVar 2)) (mNoPart))) (mCons (mBin addF (mTup (mCons (mC (.int (-1))) (mNil))) (mVar 1)) (mCons (mBin addF (mVar 1) (mVar 1)) (mNil))))))))
  (mSeq (mExpr (mAppend 3 (mBin addF (mBin addF (mTup (mCons (mC (.int 0)) (mNil))) (mVar 1)) (mVar 1))))
  (mRet (mBin addF (mVar 3) (mLst (mCons (mTup (mNil)) (mCons (mC .non) (mCons (mC (.int 0)) (mCons (mC (.str "term")) (mCons (mDict0) (mCons (mLst (mNil)) (mCons (mTup (mCons (mC (.int 1)) (mNil))) (mCons (mTup (mCons (mC (.int (-1))) (mNil))) (mCons (mTup (mCons (mC (.int 0)) (mNil))) (mCons (mTup (mCons (mC (.int 0)) (mCons (mC (.int 1)) (mNil)))) (mNil)))))))))))))))))
noncomputable def s__law_near_values : Sem' := semFn 2 5 b__law_near_values
noncomputable def b__law_long_values : MS :=
  mSeq (mSet 1 (mBin addF (mC (.int 397)) (mCall s__law_roll (mACons true (mVar 0) (mACons false (mC (.int 6)) (mANil))))))
  (mSeq (mSet 2 (mLst (mCons (mBin addF (mBin mulF (mTup (mCons (mC (.int (-1))) (mNil))) (mVar 1)) (mTup (mCons (mC (.int 1)) (mNil)))) (mCons (mBin addF (mBin mulF (mTup (mCons (mC (.int 0)) (mNil))) (mBin divF (mVar 1) (mC (.int 2)))) (mBin mulF (mTup (mCons (mC (.int 2)) (mNil))) (mBin addF (mBin divF (mVar 1) (mC (.int 2))) (mC (.int 1))))) (mNil)))))
  (mSeq (mExpr (mAppend 2 (mBin addF (mBin mulF (mTup (mCons (mC (.int 0)) (mCons (mC (.int (-1))) (mNil)))) (mBin divF (mVar 1) (mC (.int 3)))) (mBin mulF (mTup (mCons (mC (.int 1)) (mNil))) (mBin addF (mBin divF (mVar 1) (mC (.int 3))) (mC (.int 1)))))))
  (mRet (mBin addF (mVar 2) (mLst (mCons (mBin addF (mBin mulF (mTup (mCons (mC (.int 0)) (mCons (mC (.int 1)) (mNil)))) (mC (.int 199))) (mTup (mCons (mC (.int 1)) (mNil)))) (mCons (mBin addF (mBin mulF (mTup (mCons (mC (.int 0)) (mCons (mC (.int 1)) (mNil)))) (mC (.int 200))) (mTup (mCons (mC (.int 1)) (mNil)))) (mCons (mBin addF (mBin mulF (mTup (mCons (mC (.int 0)) (mCons (mC (.int (-1))) (mCons (mC (.int 1)) (mNil))))) (mC (.int 133))) (mTup (mCons (mC (.int 5)) (mNil)))) (mCons (mBin addF (mBin mulF (mTup (mCons (mC (.int 0)) (mCons (mC (.int (-1))) (mCons (mC (.int 1)) (mNil))))) (mC (.int 133))) (mTup (mCons (mC (.int (-1))) (mCons (mC (.int 5)) (mNil))))) (mNil))))))))))
noncomputable def s__law_long_values : Sem' := semFn 1 3 b__law_long_values
noncomputable def w__law_is_term_1 : MS :=
  mSeq (mIte (mOrT (mNotT (mTruth (mCallB isiF (mRCons (mVar 2) (mRCons (mC (.oth (.ty "int"))) (mRNil)))))) (mOrT (mTruth (mCallB isiF (mRCons (mVar 2) (mRCons (mC (.oth (.ty "bool"))) (mRNil))))) (mOrT (mNotT (mTest (mChain leF leF (mC (.int (-1))) (mVar 2) (mC (.int 1000))))) (mTest (mBin eqF (mVar 1) (mC (.int 0))))))) (mRet (mC (.bl false))) (mSkip))
  (mSeq (mIte (mTest (mBin eqF (mVar 2) (mC (.int 0)))) (mSet 1 (mBin addF (mVar 1) (mC (.int 1)))) (mSkip))
  (mIte (mTest (mBin gtF (mVar 2) (mC (.int 0)))) (mSet 1 (mBin subF (mVar 1) (mC (.int 1)))) (mSkip)))
theorem w__law_is_term_1_ap {env : Env} : w__law_is_term_1 env = (mSeq (mIte (mOrT (mNotT (mTruth (mCallB isiF (mRCons (mVar 2) (mRCons (mC (.oth (.ty "int"))) (mRNil)))))) (mOrT (mTruth (mCallB isiF (mRCons (mVar 2) (mRCons (mC (.oth (.ty "bool"))) (mRNil))))) (mOrT (mNotT (mTest (mChain leF leF (mC (.int (-1))) (mVar 2) (mC (.int 1000))))) (mTest (mBin eqF (mVar 1) (mC (.int 0))))))) (mRet (mC (.bl false))) (mSkip))
  (mSeq (mIte (mTest (mBin eqF (mVar 2) (mC (.int 0)))) (mSet 1 (mBin addF (mVar 1) (mC (.int 1)))) (mSkip))
  (mIte (mTest (mBin gtF (mVar 2) (mC (.int 0)))) (mSet 1 (mBin subF (mVar 1) (mC (.int 1)))) (mSkip)))) env := rfl
noncomputable def b__law_is_term : MS :=
  mSeq (mIte (mOrT (mNotT (mTruth (mCallB isiF (mRCons (mVar 0) (mRCons (mC (.oth (.ty "tuple"))) (mRNil)))))) (mNotT (mTest (mChain leF leF (mC (.int 1)) (mCallB lenF (mRCons (mVar 0) (mRNil))) (mC (.int 400)))))) (mRet (mC (.bl false))) (mSkip))
  (mSeq (mSet 1 (mC (.int 1)))
  (mSeq (mFor (mItems (mVar 0)) (gNm 2) w__law_is_term_1)
  (mRet (mBin eqF (mVar 1) (mC (.int 0))))))
noncomputable def s__law_is_term : Sem' := semFn 1 3 b__law_is_term
noncomputable def w__law_right_1 : MS :=
  mIte (mTest (mBin neF (mCall s_is_term (mACons false (mVar 2) (mANil))) (mCall s__law_is_term (mACons false (mVar 2) (mANil))))) (mRet (mC (.bl false))) (mSkip)
theorem w__law_right_1_ap {env : Env} : w__law_right_1 env = (mIte (mTest (mBin neF (mCall s_is_term (mACons false (mVar 2) (mANil))) (mCall s__law_is_term (mACons false (mVar 2) (mANil))))) (mRet (mC (.bl false))) (mSkip)) env := rfl
noncomputable def w__law_right_2 : MS :=
  mSeq (mSet 5 (mCall s__law_roll (mACons true (mVar 0) (mACons false (mCallB lenF (mRCons (mVar 1) (mRNil))) (mANil)))))
  (mSeq (mSet 6 (mCall s_part_of (mACons false (mVar 1) (mACons false (mVar 5) (mANil)))))
  (mSeq (mIte (mOrT (mTest (mBin neF (mCall s_part_end (mACons false (mVar 1) (mACons false (mVar 5) (mANil)))) (mBin ixF (mVar 3) (mVar 5)))) (mOrT (mTest (mBin neF (mVar 6) (mSl (mVar 1) (mPart (mVar 5)) (mPart (mBin ixF (mVar 3) (mVar 5)))))) (mNotT (mTruth (mCall s_is_term (mACons false (mVar 6) (mANil))))))) (mRet (mC (.bl false))) (mSkip))
  (mSeq (mSet 7 (mBin subF (mBin subF (mBin addF (mVar 5) (mCallB lenF (mRCons (mVar 6) (mRNil)))) (mC (.int 1))) (mCall s__law_roll (mACons true (mVar 0) (mACons false (mCallB lenF (mRCons (mVar 6) (mRNil))) (mANil))))))
  (mSeq (mIte (mNotT (mTest (mChain3 leF ltF leF (mVar 5) (mVar 7) (mCall s_part_end (mACons false (mVar 1) (mACons false (mVar 7) (mANil)))) (mBin ixF (mVar 3) (mVar 5))))) (mRet (mC (.bl false))) (mSkip))
  (mIte (mTest (mBin neF (mCall s_part_of (mACons false (mVar 6) (mACons false (mBin subF (mVar 7) (mVar 5)) (mANil)))) (mCall s_part_of (mACons false (mVar 1) (mACons false (mVar 7) (mANil)))))) (mRet (mC (.bl false))) (mSkip))))))
theorem w__law_right_2_ap {env : Env} : w__law_right_2 env = (mSeq (mSet 5 (mCall s__law_roll (mACons true (mVar 0) (mACons false (mCallB lenF (mRCons (mVar 1) (mRNil))) (mANil)))))
  (mSeq (mSet 6 (mCall s_part_of (mACons false (mVar 1) (mACons false (mVar 5) (mANil)))))
  (mSeq (mIte (mOrT (mTest (mBin neF (mCall s_part_end (mACons false (mVar 1) (mACons false (mVar 5) (mANil)))) (mBin ixF (mVar 3) (mVar 5)))) (mOrT (mTest (mBin neF (mVar 6) (mSl (mVar 1) (mPart (mVar 5)) (mPart (mBin ixF (mVar 3) (mVar 5)))))) (mNotT (mTruth (mCall s_is_term (mACons false (mVar 6) (mANil))))))) (mRet (mC (.bl false))) (mSkip))
  (mSeq (mSet 7 (mBin subF (mBin subF (mBin addF (mVar 5) (mCallB lenF (mRCons (mVar 6) (mRNil)))) (mC (.int 1))) (mCall s__law_roll (mACons true (mVar 0) (mACons false (mCallB lenF (mRCons (mVar 6) (mRNil))) (mANil))))))
  (mSeq (mIte (mNotT (mTest (mChain3 leF ltF leF (mVar 5) (mVar 7) (mCall s_part_end (mACons false (mVar 1) (mACons false (mVar 7) (mANil)))) (mBin ixF (mVar 3) (mVar 5))))) (mRet (mC (.bl false))) (mSkip))
  (mIte (mTest (mBin neF (mCall s_part_of (mACons false (mVar 6) (mACons false (mBin subF (mVar 7) (mVar 5)) (mANil)))) (mCall s_part_of (mACons false (mVar 1) (mACons false (mVar 7) (mANil)))))) (mRet (mC (.bl false))) (mSkip))))))) env := rfl
noncomputable def b__law_right : MS :=
  mSeq (mSet 1 (mCall s__law_term_drawn (mACons true (mVar 0) (mACons false (mBin addF (mC (.int 1)) (mCall s__law_roll (mACons true (mVar 0) (mACons false (mC (.int 40)) (mANil))))) (mACons false (mBin addF (mC (.int 1)) (mCall s__law_roll (mACons true (mVar 0) (mACons false (mC (.int 3)) (mANil))))) (mANil))))))
  (mSeq (mFor (mItems (mBin addF (mCall s__law_near_values (mACons true (mVar 0) (mACons false (mVar 1) (mANil)))) (mCall s__law_long_values (mACons true (mVar 0) (mANil))))) (gNm 2) w__law_right_1)
  (mSeq (mSet 3 (mCall s__law_ends (mACons false (mVar 1) (mANil))))
  (mSeq (mFor (mRng rng1 (mCons (mC (.int 12)) (mNil))) (gNm 4) w__law_right_2)
  (mRet (mBin eqF (mCall s_part_of (mACons false (mVar 1) (mACons false (mC (.int 0)) (mANil)))) (mVar 1))))))
noncomputable def s__law_right : Sem' := semFn 1 8 b__law_right
noncomputable def b__law_dice : MS :=
  mSeq (mSet 2 (mBin addF (mBin mulF (mC (.int 109)) (mVar 1)) (mC (.int 59))))
  (mSeq (mIte (mTest (mBin ltF (mVar 1) (mCallB lenF (mRCons (mVar 0) (mRNil))))) (mSet 2 (mBin ixF (mVar 0) (mVar 1))) (mSkip))
  (mSeq (mSet 3 (mBin modF (mCallB intF (mRCons (mCallB absF (mRCons (mVar 2) (mRNil))) (mRNil))) (mBin powF (mBin powF (mC (.int 10)) (mC (.int 60))) (mC (.int 10)))))
  (mSeq (mSet 4 (mBin divF (mVar 3) (mBin powF (mC (.int 10)) (mC (.int 18)))))
  (mSeq (mSet 5 (mBin addF (mBin addF (mBin addF (mBin mulF (mBin modF (mVar 3) (mC (.int 2147482577))) (mC (.int 60611))) (mBin mulF (mC (.int 3571)) (mVar 1))) (mBin mulF (mC (.int 101)) (mCallB intF (mRCons (mBin ltF (mVar 2) (mC (.int 0))) (mRNil))))) (mC (.int 137))))
  (mRet (mLst (mCons (mVar 4) (mCons (mBin modF (mVar 5) (mC (.int 2147482543))) (mCons (mC (.int 0)) (mNil))))))))))
noncomputable def s__law_dice : Sem' := semFn 2 6 b__law_dice
noncomputable def w_law_1 : MS :=
  mIte (mNotT (mTruth (mCall s__law_right (mACons true (mCall s__law_dice (mACons false (mVar 0) (mACons false (mVar 1) (mANil)))) (mANil))))) (mRet (mC (.bl false))) (mSkip)
theorem w_law_1_ap {env : Env} : w_law_1 env = (mIte (mNotT (mTruth (mCall s__law_right (mACons true (mCall s__law_dice (mACons false (mVar 0) (mACons false (mVar 1) (mANil)))) (mANil))))) (mRet (mC (.bl false))) (mSkip)) env := rfl
noncomputable def b_law : MS :=
  mSeq (mFor (mRng rng1 (mCons (mCallB max2F (mRCons (mC (.int 1)) (mRCons (mCallB min2F (mRCons (mC (.int 3)) (mRCons (mCallB lenF (mRCons (mVar 0) (mRNil))) (mRNil)))) (mRNil)))) (mNil))) (gNm 1) w_law_1)
  (mSeq (mSet 2 (mTup (mCons (mC (.int 0)) (mCons (mC (.int (-1))) (mCons (mC (.int 0)) (mCons (mC (.int 1)) (mCons (mC (.int 1)) (mCons (mC (.int 0)) (mCons (mC (.int (-1))) (mCons (mC (.int 1)) (mCons (mC (.int (-1))) (mCons (mC (.int 1)) (mNil)))))))))))))
  (mSeq (mSet 3 (mLst (mCons (mCall s_is_term (mACons false (mVar 2) (mANil))) (mCons (mCall s_is_term (mACons false (mTup (mCons (mC (.int 0)) (mCons (mC (.int 1)) (mNil)))) (mANil))) (mCons (mCall s_is_term (mACons false (mTup (mCons (mC (.int 0)) (mCons (mC (.int (-1))) (mCons (mC (.int 1)) (mCons (mC (.int 2)) (mNil)))))) (mANil))) (mCons (mCall s_part_end (mACons false (mVar 2) (mACons false (mC (.int 1)) (mANil)))) (mCons (mCall s_part_of (mACons false (mVar 2) (mACons false (mC (.int 5)) (mANil)))) (mNil))))))))
  (mSeq (mIte (mOrT (mTest (mBin neF (mVar 3) (mLst (mCons (mC (.bl true)) (mCons (mC (.bl false)) (mCons (mC (.bl true)) (mCons (mC (.int 5)) (mCons (mTup (mCons (mC (.int 0)) (mCons (mC (.int (-1))) (mCons (mC (.int 1)) (mCons (mC (.int (-1))) (mCons (mC (.int 1)) (mNil))))))) (mNil))))))))) (mOrT (mTruth (mCall s_is_term (mACons false (mTup (mCons (mC (.int 1)) (mCons (mC (.int 0)) (mCons (mC (.int 1)) (mNil))))) (mANil)))) (mTruth (mCall s_is_term (mACons false (mTup (mCons (mC (.int (-1))) (mCons (mC (.int 1)) (mCons (mC (.int 0)) (mCons (mC (.int 2)) (mNil)))))) (mANil)))))) (mRet (mC (.bl false))) (mSkip))
  (mRet (mBin eqF (mTup (mCons (mC (.int 400)) (mCons (mC (.int 1000)) (mNil)))) (mTup (mCons (mC (.int 400)) (mCons (mC (.int 1000)) (mNil)))))))))
noncomputable def s_law : Sem' := semFn 1 4 b_law
end PL

namespace PL
open PySem L2
theorem roll_ok {d : D} {n : Int} (hd : Dice d) (hn : 1 ≤ n) (hn2 : n < 1073741824) : ∃ r d', Dice d' ∧ 0 ≤ r ∧ r < n ∧ s__law_roll [.io d, .fz (.int n)] = some (.ok (false, .int r) [.io d', .fz (.int n)]) := by
  obtain ⟨l, m, c, rfl, h1, h2, h3, h4⟩ := hd.ex
  have n0 : 0 < n := by omega
  have cd : ∀ x, CDivA x n := fun x => cdivA_small n0 hn2
  by_cases hl : 0 < l
  · refine ⟨l % n, .lst [.int (l / n), .int m, .int c], ⟨_, _, _, rfl, Int.ediv_nonneg h1 (by omega), h2, h3, h4⟩, Int.emod_nonneg _ (by omega), Int.emod_lt_of_pos _ n0, ?_⟩
    simp -implicitDefEqProofs only [kR_r1, kR_r2, kR_r3d, intsD, mFor_ap, kForS_ap, addF_ii, addF_tt, addF_ll, addF_ss, mulF_ii, mulF_tt, mulF_ll, subF_ii, ltF_ii, leF_ii, gtF_ii, geF_ii, modF_ii, divF_ii, powF_ii, cutD_lo, cutD_hi, cutD_mid, cutD_m1, mYes_ap, truD, isi_set_int, isi_set_bool, isi_set_tuple, isi_set_list, isi_set_str, isi_set_dict, mLc_ap, allF_f, anyF_f, isi_non_int, isi_bl_int, isi_int_int, isi_str_int, isi_tup_int, isi_lst_int, isi_dK_int, isi_dT_int, isi_non_bool, isi_bl_bool, isi_int_bool, isi_str_bool, isi_tup_bool, isi_lst_bool, isi_dK_bool, isi_dT_bool, isi_non_tuple, isi_bl_tuple, isi_int_tuple, isi_str_tuple, isi_tup_tuple, isi_lst_tuple, isi_dK_tuple, isi_dT_tuple, isi_non_list, isi_bl_list, isi_int_list, isi_str_list, isi_tup_list, isi_lst_list, isi_dK_list, isi_dT_list, isi_non_str, isi_bl_str, isi_int_str, isi_str_str, isi_tup_str, isi_lst_str, isi_dK_str, isi_dT_str, isi_non_dict, isi_bl_dict, isi_int_dict, isi_str_dict, isi_tup_dict, isi_lst_dict, isi_dK_dict, isi_dT_dict, eqF_int, neF_int, eqF_bl, neF_bl, eqF_T, neF_T, eqF_Tm, neF_Tm, bndR_ok, bndR_none, bnd_ap, ret_ap, stuck_ap, mVar_ap, kVar_fz, kVar_ow, kVar_io, mC_ap, content_val, content_new, content_bor, slD_fz, slD_ow, slD_io, rv_f, rv_t, val_eq, new_eq, kRz_some, kRz_none, kP1_some, prim1_ap, kP2_some, prim2_ap, mBin_ap, kBin_ap, kBin2_ap, mUn_ap, kUn_ap, mTest_ap, kTest_ap, mTruth_ap, kTruth_ap, kTru_some, mNotT_ap, kNot_ap, mAndT_ap, mOrT_ap, kAnd_t, kAnd_f, kOr_t, kOr_f, mIf_ap, mIte_ap, kIf_t, kIf_f, mAndV_ap, mOrV_ap, kAndV_t, kAndV_f, kOrV_t, kOrV_f, mChain_ap, kCh1_ap, kCh2_ap, kCh3_ap, kLink_t, kLink_f, mChain3_ap, kC31_ap, kC32_ap, settle_val, settle_new, settle_bor, kSl_fz, kSl_ow, kOk_some, mD_ap, kD_ap, mCons_ap, kCons1_ap, kCons2_ap, mNil_ap, mStar_ap, kStar_ap, kStar1_some, kStar2_ap, mTup_ap, mLst_ap, kTup_ok, kLst_ok, mDict0_ap, mNoPart_ap, mPart_ap, kPart_ap, mSl_ap, kS1_ap, kS2_ap, kS3_ap, kS4_some, mRNil_ap, mRCons_ap, kR1_ap, kR2_ap, contents_nil, contents_cons, kCts_some, mCallB_ap, kCB_ap, kCB1_some, mArg_ap, kArg_f, kArg_val, kArg_new, kArg_bor, kArB_ow, kArB_io, mANil_ap, mACons_ap, kA1_ap, kA2_ap, mCall_ap, kCall_ap, kCall1_some, kFin_ok, owned_ow, owned_io, owned_fz, slsOf_nil, slsOf_pl, slsOf_tp, slsOf_ob, kOb_some, back_nil, back_pl, back_tp, back_ob, obs_nil, obs_pl, obs_tp, obs_ob, tps_nil, tps_pl, tps_tp, tps_ob, setOwn_ap, kSO_ow, kSO_io, mMut_ap, kMut0_some, kMut_some, mHas_ap, kHas_lst, mAppend_ap, kApp_ap, mPop_ap, mExtend_ap, kExt_ap, kExt1_some, appF_ok, extF_ok, popF_snoc, mSeq_ap, kSeq_nx, kSeq_rt, kSeq_bk, kSeq_ct, mSkip_ap, mBrk_ap, mCnt_ap, mExpr_ap, kDrop_ap, mRet_ap, kRet_val, kRet_new, kRet_bor, kRetB_fz, kRetB_ow, mRetN_ap, kNx_some, mSet_ap, kSet_ap, setSl_ap, kSS_no, kSS_fz, kSS_ow, kSS_pl, z1, z2, z3, z4, z5, z6, z7, z8, z9, z10, z11, z12, z13, z14, z15, z16, z17, z18, z19, z20, ixF_lst0, ixF_lst1, ixF_lst2, ixF_lst3, ixF_lstm, ixF_tup0, ixF_tup1, ixF_tup2, ixF_tup3, ixF_tupm, ixF_rol0, ixF_rol1, ixF_rol2, ixF_rol3, ixF_rolm, setF_0, setF_1, setF_2, setF_3, putRv_val, putRv_new, putRv_bor, noIo_no, noIo_fz, noIo_ow, mAsg_ap, kAsg_ap, gNm_ap, gTp_ap, gsNil_ap, gsCons_ap, mSt_ap, kSt_val, kSt_new, kSt_bor, mPNil_ap, mPCons_ap, kPC1_ap, mPar_ap, kPar_ap, putN_nil, putN_cons, mAug_ap, kAug_fz, kAug1_ap, mSetIx_ap, kIx_ap, kIx1_some, kIx2_ap, kIx3_some, kIx5_some, kIx4_some, setF_ok, mTurn_ap, kTurn_nx, kTurn_ct, kTurn_bk, kTurn_rt, kWh_t, kWh_f, forF_nil, kFor_some, semFn_ap, kFn_rt, kFn_nx, plain_fz, plain_io, mItems_ap, kIt_val, kIt_new, kIt_bor, kItB_fz, kItB_ow, kItB_io, kSrc_some, items_tup, items_lst, items_rol, mRng_ap, kRn_ap, kR_some, plainArg, val, new, negF, notF, lenF, absF, intF, boolF, max2F, min2F, tupleF, listF, fI, fI0, slF, isL, Rz.rv, eq_self, List.getElem?_cons_succ, List.getElem?_cons_zero, List.set_cons_succ, List.set_cons_zero, Option.map_some, Option.map_none, Option.bind_some, decide_true, decide_false, decide_not, Bool.not_true, Bool.not_false, Bool.true_and, Bool.and_true, Bool.false_and, Bool.and_false, Bool.true_or, Bool.or_true, Bool.false_or, Bool.or_false, List.nil_append, List.cons_append, List.append_nil, List.length_cons, List.length_nil, List.length_append, List.length_map, List.replicate_succ, List.replicate_zero, List.all_cons, List.all_nil, if_true, if_false, ite_true, ite_false, Nat.sub_self, Nat.reduceAdd, Nat.reduceSub, Nat.reduceLeDiff, Nat.reduceLT, List.take_succ_cons, List.take_zero, true_and, and_true, not_true, not_false_eq_true, and_self, List.nodup_nil, List.nodup_cons, List.mem_cons, List.not_mem_nil, or_false, false_or, List.map_cons, List.map_nil, List.map_append, Bool.decide_eq_true, Nat.zero_le, Bool.cond_true, Bool.cond_false, ↓reduceIte, reduceCtorEq, Int.reduceLT, Int.reduceLE, Int.reduceNeg, Int.reduceAdd, Int.reduceMul, Int.reduceSub, Int.reduceEq, Nat.reduceEqDiff, Nat.zero_add, id, s__law_roll, b__law_roll, hl, n0, cd]
  · have hl' : ¬ 0 < l := hl
    have a1 : ∀ x, CMulA 1000403 x := fun x => cmulA_left (by decide) (by decide)
    have a2 : ∀ x, CMulA 9521 x := fun x => cmulA_left (by decide) (by decide)
    have a3 : ∀ x : Int, CMulA (x % 2305843009213693951) (x % 2305843009213693951) := fun x => cmulA_left (by have := Int.emod_nonneg x (show (2305843009213693951 : Int) ≠ 0 by decide); omega) (by have := Int.emod_lt_of_pos x (show (0 : Int) < 2305843009213693951 by decide); omega)
    have a4 : ∀ x y : Int, CMulA (x % 2305843009213693921) y := fun x y => cmulA_left (by have := Int.emod_nonneg x (show (2305843009213693921 : Int) ≠ 0 by decide); omega) (by have := Int.emod_lt_of_pos x (show (0 : Int) < 2305843009213693921 by decide); omega)
    have a5 : ∀ x : Int, CDivA x 4096 := fun x => cdivA_small (by decide) (by decide)
    have key : s__law_roll [.io (.lst [.int l, .int m, .int c]), .fz (.int n)] = some (.ok (false, .int ((let one := (m + 1000403 * (c + 1)) % 2305843009213693951; (one * one % 2305843009213693921 * one + 9521 * (c + 1)) % 2305843009213693907 / 4096) % n)) [.io (.lst [.int l, .int m, .int (c + 1)]), .fz (.int n)]) := by
      simp -implicitDefEqProofs only [kR_r1, kR_r2, kR_r3d, intsD, mFor_ap, kForS_ap, addF_ii, addF_tt, addF_ll, addF_ss, mulF_ii, mulF_tt, mulF_ll, subF_ii, ltF_ii, leF_ii, gtF_ii, geF_ii, modF_ii, divF_ii, powF_ii, cutD_lo, cutD_hi, cutD_mid, cutD_m1, mYes_ap, truD, isi_set_int, isi_set_bool, isi_set_tuple, isi_set_list, isi_set_str, isi_set_dict, mLc_ap, allF_f, anyF_f, isi_non_int, isi_bl_int, isi_int_int, isi_str_int, isi_tup_int, isi_lst_int, isi_dK_int, isi_dT_int, isi_non_bool, isi_bl_bool, isi_int_bool, isi_str_bool, isi_tup_bool, isi_lst_bool, isi_dK_bool, isi_dT_bool, isi_non_tuple, isi_bl_tuple, isi_int_tuple, isi_str_tuple, isi_tup_tuple, isi_lst_tuple, isi_dK_tuple, isi_dT_tuple, isi_non_list, isi_bl_list, isi_int_list, isi_str_list, isi_tup_list, isi_lst_list, isi_dK_list, isi_dT_list, isi_non_str, isi_bl_str, isi_int_str, isi_str_str, isi_tup_str, isi_lst_str, isi_dK_str, isi_dT_str, isi_non_dict, isi_bl_dict, isi_int_dict, isi_str_dict, isi_tup_dict, isi_lst_dict, isi_dK_dict, isi_dT_dict, eqF_int, neF_int, eqF_bl, neF_bl, eqF_T, neF_T, eqF_Tm, neF_Tm, bndR_ok, bndR_none, bnd_ap, ret_ap, stuck_ap, mVar_ap, kVar_fz, kVar_ow, kVar_io, mC_ap, content_val, content_new, content_bor, slD_fz, slD_ow, slD_io, rv_f, rv_t, val_eq, new_eq, kRz_some, kRz_none, kP1_some, prim1_ap, kP2_some, prim2_ap, mBin_ap, kBin_ap, kBin2_ap, mUn_ap, kUn_ap, mTest_ap, kTest_ap, mTruth_ap, kTruth_ap, kTru_some, mNotT_ap, kNot_ap, mAndT_ap, mOrT_ap, kAnd_t, kAnd_f, kOr_t, kOr_f, mIf_ap, mIte_ap, kIf_t, kIf_f, mAndV_ap, mOrV_ap, kAndV_t, kAndV_f, kOrV_t, kOrV_f, mChain_ap, kCh1_ap, kCh2_ap, kCh3_ap, kLink_t, kLink_f, mChain3_ap, kC31_ap, kC32_ap, settle_val, settle_new, settle_bor, kSl_fz, kSl_ow, kOk_some, mD_ap, kD_ap, mCons_ap, kCons1_ap, kCons2_ap, mNil_ap, mStar_ap, kStar_ap, kStar1_some, kStar2_ap, mTup_ap, mLst_ap, kTup_ok, kLst_ok, mDict0_ap, mNoPart_ap, mPart_ap, kPart_ap, mSl_ap, kS1_ap, kS2_ap, kS3_ap, kS4_some, mRNil_ap, mRCons_ap, kR1_ap, kR2_ap, contents_nil, contents_cons, kCts_some, mCallB_ap, kCB_ap, kCB1_some, mArg_ap, kArg_f, kArg_val, kArg_new, kArg_bor, kArB_ow, kArB_io, mANil_ap, mACons_ap, kA1_ap, kA2_ap, mCall_ap, kCall_ap, kCall1_some, kFin_ok, owned_ow, owned_io, owned_fz, slsOf_nil, slsOf_pl, slsOf_tp, slsOf_ob, kOb_some, back_nil, back_pl, back_tp, back_ob, obs_nil, obs_pl, obs_tp, obs_ob, tps_nil, tps_pl, tps_tp, tps_ob, setOwn_ap, kSO_ow, kSO_io, mMut_ap, kMut0_some, kMut_some, mHas_ap, kHas_lst, mAppend_ap, kApp_ap, mPop_ap, mExtend_ap, kExt_ap, kExt1_some, appF_ok, extF_ok, popF_snoc, mSeq_ap, kSeq_nx, kSeq_rt, kSeq_bk, kSeq_ct, mSkip_ap, mBrk_ap, mCnt_ap, mExpr_ap, kDrop_ap, mRet_ap, kRet_val, kRet_new, kRet_bor, kRetB_fz, kRetB_ow, mRetN_ap, kNx_some, mSet_ap, kSet_ap, setSl_ap, kSS_no, kSS_fz, kSS_ow, kSS_pl, z1, z2, z3, z4, z5, z6, z7, z8, z9, z10, z11, z12, z13, z14, z15, z16, z17, z18, z19, z20, ixF_lst0, ixF_lst1, ixF_lst2, ixF_lst3, ixF_lstm, ixF_tup0, ixF_tup1, ixF_tup2, ixF_tup3, ixF_tupm, ixF_rol0, ixF_rol1, ixF_rol2, ixF_rol3, ixF_rolm, setF_0, setF_1, setF_2, setF_3, putRv_val, putRv_new, putRv_bor, noIo_no, noIo_fz, noIo_ow, mAsg_ap, kAsg_ap, gNm_ap, gTp_ap, gsNil_ap, gsCons_ap, mSt_ap, kSt_val, kSt_new, kSt_bor, mPNil_ap, mPCons_ap, kPC1_ap, mPar_ap, kPar_ap, putN_nil, putN_cons, mAug_ap, kAug_fz, kAug1_ap, mSetIx_ap, kIx_ap, kIx1_some, kIx2_ap, kIx3_some, kIx5_some, kIx4_some, setF_ok, mTurn_ap, kTurn_nx, kTurn_ct, kTurn_bk, kTurn_rt, kWh_t, kWh_f, forF_nil, kFor_some, semFn_ap, kFn_rt, kFn_nx, plain_fz, plain_io, mItems_ap, kIt_val, kIt_new, kIt_bor, kItB_fz, kItB_ow, kItB_io, kSrc_some, items_tup, items_lst, items_rol, mRng_ap, kRn_ap, kR_some, plainArg, val, new, negF, notF, lenF, absF, intF, boolF, max2F, min2F, tupleF, listF, fI, fI0, slF, isL, Rz.rv, eq_self, List.getElem?_cons_succ, List.getElem?_cons_zero, List.set_cons_succ, List.set_cons_zero, Option.map_some, Option.map_none, Option.bind_some, decide_true, decide_false, decide_not, Bool.not_true, Bool.not_false, Bool.true_and, Bool.and_true, Bool.false_and, Bool.and_false, Bool.true_or, Bool.or_true, Bool.false_or, Bool.or_false, List.nil_append, List.cons_append, List.append_nil, List.length_cons, List.length_nil, List.length_append, List.length_map, List.replicate_succ, List.replicate_zero, List.all_cons, List.all_nil, if_true, if_false, ite_true, ite_false, Nat.sub_self, Nat.reduceAdd, Nat.reduceSub, Nat.reduceLeDiff, Nat.reduceLT, List.take_succ_cons, List.take_zero, true_and, and_true, not_true, not_false_eq_true, and_self, List.nodup_nil, List.nodup_cons, List.mem_cons, List.not_mem_nil, or_false, false_or, List.map_cons, List.map_nil, List.map_append, Bool.decide_eq_true, Nat.zero_le, Bool.cond_true, Bool.cond_false, ↓reduceIte, reduceCtorEq, Int.reduceLT, Int.reduceLE, Int.reduceNeg, Int.reduceAdd, Int.reduceMul, Int.reduceSub, Int.reduceEq, Nat.reduceEqDiff, Nat.zero_add, id, s__law_roll, b__law_roll, hl', n0, cd, a1, a2, a3, a4, a5]
    exact ⟨_, .lst [.int l, .int m, .int (c + 1)], ⟨_, _, _, rfl, h1, h2, h3, by omega⟩, Int.emod_nonneg _ (by omega), Int.emod_lt_of_pos _ n0, key⟩
end PL

namespace PL
open PySem L2
/-- what the drawing of a term keeps: how much is left of a place (left, depth) -/
def wt (o : Int) (p : Int × Int) : Nat := if p.2 + o ≤ 0 then 2 * max p.1.toNat 1 else max p.1.toNat 1
def wts (o : Int) (ps : List (Int × Int)) : Nat := (ps.map (wt o)).sum
def pairD (p : Int × Int) : D := .tup [.int p.1, .int p.2]
def isPl : Sl → Bool
  | .no => true
  | .fz _ => true
  | _ => false
theorem noIo_pl {x : Sl} (h : isPl x = true) : noIo (some x) = true := by cases x <;> first | rfl | cases h
structure Drawn (o : Int) (B : Nat) (found : List Int) (todo : List (Int × Int)) : Prop where
  shape : ∀ l, shp 1 (found ++ l) = shp todo.length l
  codes : ∀ c ∈ found, -1 ≤ c ∧ c ≤ (B : Int) + o
  deep : ∀ p ∈ todo, 0 ≤ p.2 ∧ p.2 + wt o p ≤ B
  size : found.length + wts o todo ≤ B
theorem wts_app (o : Int) (ps qs : List (Int × Int)) : wts o (ps ++ qs) = wts o ps + wts o qs := by
  simp [wts]
theorem wts_snoc (o : Int) (ps : List (Int × Int)) (p : Int × Int) : wts o (ps ++ [p]) = wts o ps + wt o p := by
  simp [wts]
theorem wts_one (o : Int) (p : Int × Int) : wts o [p] = wt o p := by simp [wts]
theorem wts_two (o : Int) (p q : Int × Int) : wts o [p, q] = wt o p + wt o q := by simp [wts]
theorem shp_app {found : List Int} {k : Nat} (h : ∀ l, shp 1 (found ++ l) = shp (k + 1) l) (c : Int) : ∀ l, shp 1 ((found ++ [c]) ++ l) = shp (if c = 0 then k + 2 else if 0 < c then k else k + 1) l := fun l => by
  rw [List.append_assoc, h]
  rfl
theorem cmpOk_pairs (ps : List (Int × Int)) : cmpOk (.lst (ps.map pairD)) = true := by
  have h1 : ∀ ps : List (Int × Int), gdL (ps.map pairD) = true := fun ps => by
    induction ps with
    | nil => rfl
    | cons p ps ih => simp [gdL, pairD, gd, ih]
  have h2 : ∀ ps : List (Int × Int), dpL (ps.map pairD) ≤ 1 := fun ps => by
    induction ps with
    | nil => simp [dpL]
    | cons p ps ih => simp [dpL, pairD, dp]; omega
  have := h2 ps
  simp [cmpOk, gd, h1, dp]
  omega
theorem wt_pos (o : Int) (p : Int × Int) : 1 ≤ wt o p := by unfold wt; split <;> omega
/-- the open places behind one more code, or two -/
theorem Drawn.push {o : Int} {B : Nat} {found : List Int} {ps qs : List (Int × Int)} {p : Int × Int} (hd : Drawn o B found (ps ++ [p])) (cs : List Int) (h1 : ∀ l, shp (ps.length + 1) (cs ++ l) = shp (ps.length + qs.length) l) (h2 : ∀ c ∈ cs, -1 ≤ c ∧ c ≤ (B : Int) + o) (h3 : ∀ q ∈ qs, 0 ≤ q.2 ∧ q.2 + wt o q ≤ B) (h4 : cs.length + wts o qs ≤ wt o p) : Drawn o B (found ++ cs) (ps ++ qs) where
  shape l := by
    rw [List.append_assoc, hd.shape, List.length_append, List.length_append]
    exact h1 l
  codes c hc := (List.mem_append.mp hc).elim (hd.codes c) (h2 c)
  deep q hq := (List.mem_append.mp hq).elim (fun hq => hd.deep q (by simp [hq])) (h3 q)
  size := by
    have := hd.size
    rw [wts_snoc] at this
    rw [wts_app, List.length_append]
    omega
theorem drawn_step {size o : Int} {B : Nat} (hB : B ≤ 1000) (ho : 0 ≤ o) (ho2 : o ≤ 1000) {found : List Int} {ps : List (Int × Int)} {l dep : Int} {d : D} {s5 s6 s7 s8 : Sl} (hd : Drawn o B found (ps ++ [(l, dep)])) (hD : Dice d) (h5 : isPl s5 = true) (h6 : isPl s6 = true) (h7 : isPl s7 = true) (h8 : isPl s8 = true) :
    ∃ cs qs d' s5' s6' s7' s8', 1 ≤ cs.length ∧ Drawn o B (found ++ cs) (ps ++ qs) ∧ cs.length + wts o qs ≤ wt o (l, dep) ∧ Dice d' ∧ isPl s5' = true ∧ isPl s6' = true ∧ isPl s7' = true ∧ isPl s8' = true ∧
      mWhile c__law_term_drawn_1 w__law_term_drawn_1 [.io d, .fz (.int size), .fz (.int o), .ow (L found), .ow (.lst ((ps ++ [(l, dep)]).map pairD)), s5, s6, s7, s8] =
      mWhile c__law_term_drawn_1 w__law_term_drawn_1 [.io d', .fz (.int size), .fz (.int o), .ow (L (found ++ cs)), .ow (.lst ((ps ++ qs).map pairD)), s5', s6', s7', s8'] := by
  have n5 := noIo_pl h5
  have n6 := noIo_pl h6
  have n7 := noIo_pl h7
  have n8 := noIo_pl h8
  have hc : cmpOk (.lst (ps.map pairD ++ [.tup [.int l, .int dep]])) = true := by simpa [pairD] using cmpOk_pairs (ps ++ [(l, dep)])
  have hl0 := hd.size
  rw [wts_snoc] at hl0
  have hw1 := wt_pos o (l, dep)
  have dp0 := hd.deep (l, dep) (by simp)
  have sf : found.length < sizeLine := sizeLt (by omega)
  have lps : ps.length ≤ wts o ps := by
    have : ∀ qs : List (Int × Int), qs.length ≤ wts o qs := fun qs => by
      induction qs with
      | nil => simp [wts]
      | cons q qs ih => have := wt_pos o q; simp [wts] at ih ⊢; omega
    exact this ps
  have sps : ps.length < sizeLine := sizeLt (by omega)
  have sps2 : ps.length + 2 ≤ sizeLine := sizeL (by omega)
  have sf2 : found.length + 2 ≤ sizeLine := sizeL (by omega)
  simp only at dp0
  have wl : wt o (l, dep) = if dep + o ≤ 0 then 2 * max l.toNat 1 else max l.toNat 1 := rfl
  have w0 : wts o [] = 0 := rfl
  have wlb : l ≤ wt o (l, dep) := by rw [wl]; split <;> omega
  by_cases c1 : l ≤ 1 ∧ 0 < dep + o
  · obtain ⟨c1, hk⟩ := c1
    obtain ⟨r1, d1, hD1, a1, b1, e1⟩ := roll_ok hD (n := dep + o) (by omega) (by omega)
    obtain ⟨r2, d2, hD2, a2, b2, e2⟩ := roll_ok hD1 (n := dep + o) (by omega) (by omega)
    refine ⟨[1 + if r2 < r1 then r2 else r1], [], d2, .fz (.int l), .fz (.int dep), .fz (.int (dep + o)), s8, by simp, hd.push _ (fun l' => ?_) (fun c hc => ?_) (fun q hq => by cases hq) (by simp [w0]; omega), by simp [w0]; omega, hD2, rfl, rfl, rfl, h8, ?_⟩
    · show shp (if (1 + if r2 < r1 then r2 else r1) = 0 then _ else if 0 < (1 + if r2 < r1 then r2 else r1) then _ else _) l' = _
      rw [if_neg (by split <;> omega), if_pos (by split <;> omega)]
      rfl
    · simp only [List.mem_singleton] at hc; subst hc; split <;> omega
    · conv => lhs; rw [mWhile_eq]
      simp -implicitDefEqProofs only [kR_r1, kR_r2, kR_r3d, intsD, mFor_ap, kForS_ap, addF_ii, addF_tt, addF_ll, addF_ss, mulF_ii, mulF_tt, mulF_ll, subF_ii, ltF_ii, leF_ii, gtF_ii, geF_ii, modF_ii, divF_ii, powF_ii, cutD_lo, cutD_hi, cutD_mid, cutD_m1, mYes_ap, truD, isi_set_int, isi_set_bool, isi_set_tuple, isi_set_list, isi_set_str, isi_set_dict, mLc_ap, allF_f, anyF_f, isi_non_int, isi_bl_int, isi_int_int, isi_str_int, isi_tup_int, isi_lst_int, isi_dK_int, isi_dT_int, isi_non_bool, isi_bl_bool, isi_int_bool, isi_str_bool, isi_tup_bool, isi_lst_bool, isi_dK_bool, isi_dT_bool, isi_non_tuple, isi_bl_tuple, isi_int_tuple, isi_str_tuple, isi_tup_tuple, isi_lst_tuple, isi_dK_tuple, isi_dT_tuple, isi_non_list, isi_bl_list, isi_int_list, isi_str_list, isi_tup_list, isi_lst_list, isi_dK_list, isi_dT_list, isi_non_str, isi_bl_str, isi_int_str, isi_str_str, isi_tup_str, isi_lst_str, isi_dK_str, isi_dT_str, isi_non_dict, isi_bl_dict, isi_int_dict, isi_str_dict, isi_tup_dict, isi_lst_dict, isi_dK_dict, isi_dT_dict, eqF_int, neF_int, eqF_bl, neF_bl, eqF_T, neF_T, eqF_Tm, neF_Tm, bndR_ok, bndR_none, bnd_ap, ret_ap, stuck_ap, mVar_ap, kVar_fz, kVar_ow, kVar_io, mC_ap, content_val, content_new, content_bor, slD_fz, slD_ow, slD_io, rv_f, rv_t, val_eq, new_eq, kRz_some, kRz_none, kP1_some, prim1_ap, kP2_some, prim2_ap, mBin_ap, kBin_ap, kBin2_ap, mUn_ap, kUn_ap, mTest_ap, kTest_ap, mTruth_ap, kTruth_ap, kTru_some, mNotT_ap, kNot_ap, mAndT_ap, mOrT_ap, kAnd_t, kAnd_f, kOr_t, kOr_f, mIf_ap, mIte_ap, kIf_t, kIf_f, mAndV_ap, mOrV_ap, kAndV_t, kAndV_f, kOrV_t, kOrV_f, mChain_ap, kCh1_ap, kCh2_ap, kCh3_ap, kLink_t, kLink_f, mChain3_ap, kC31_ap, kC32_ap, settle_val, settle_new, settle_bor, kSl_fz, kSl_ow, kOk_some, mD_ap, kD_ap, mCons_ap, kCons1_ap, kCons2_ap, mNil_ap, mStar_ap, kStar_ap, kStar1_some, kStar2_ap, mTup_ap, mLst_ap, kTup_ok, kLst_ok, mDict0_ap, mNoPart_ap, mPart_ap, kPart_ap, mSl_ap, kS1_ap, kS2_ap, kS3_ap, kS4_some, mRNil_ap, mRCons_ap, kR1_ap, kR2_ap, contents_nil, contents_cons, kCts_some, mCallB_ap, kCB_ap, kCB1_some, mArg_ap, kArg_f, kArg_val, kArg_new, kArg_bor, kArB_ow, kArB_io, mANil_ap, mACons_ap, kA1_ap, kA2_ap, mCall_ap, kCall_ap, kCall1_some, kFin_ok, owned_ow, owned_io, owned_fz, slsOf_nil, slsOf_pl, slsOf_tp, slsOf_ob, kOb_some, back_nil, back_pl, back_tp, back_ob, obs_nil, obs_pl, obs_tp, obs_ob, tps_nil, tps_pl, tps_tp, tps_ob, setOwn_ap, kSO_ow, kSO_io, mMut_ap, kMut0_some, kMut_some, mHas_ap, kHas_lst, mAppend_ap, kApp_ap, mPop_ap, mExtend_ap, kExt_ap, kExt1_some, appF_ok, extF_ok, popF_snoc, mSeq_ap, kSeq_nx, kSeq_rt, kSeq_bk, kSeq_ct, mSkip_ap, mBrk_ap, mCnt_ap, mExpr_ap, kDrop_ap, mRet_ap, kRet_val, kRet_new, kRet_bor, kRetB_fz, kRetB_ow, mRetN_ap, kNx_some, mSet_ap, kSet_ap, setSl_ap, kSS_no, kSS_fz, kSS_ow, kSS_pl, z1, z2, z3, z4, z5, z6, z7, z8, z9, z10, z11, z12, z13, z14, z15, z16, z17, z18, z19, z20, ixF_lst0, ixF_lst1, ixF_lst2, ixF_lst3, ixF_lstm, ixF_tup0, ixF_tup1, ixF_tup2, ixF_tup3, ixF_tupm, ixF_rol0, ixF_rol1, ixF_rol2, ixF_rol3, ixF_rolm, setF_0, setF_1, setF_2, setF_3, putRv_val, putRv_new, putRv_bor, noIo_no, noIo_fz, noIo_ow, mAsg_ap, kAsg_ap, gNm_ap, gTp_ap, gsNil_ap, gsCons_ap, mSt_ap, kSt_val, kSt_new, kSt_bor, mPNil_ap, mPCons_ap, kPC1_ap, mPar_ap, kPar_ap, putN_nil, putN_cons, mAug_ap, kAug_fz, kAug1_ap, mSetIx_ap, kIx_ap, kIx1_some, kIx2_ap, kIx3_some, kIx5_some, kIx4_some, setF_ok, mTurn_ap, kTurn_nx, kTurn_ct, kTurn_bk, kTurn_rt, kWh_t, kWh_f, forF_nil, kFor_some, semFn_ap, kFn_rt, kFn_nx, plain_fz, plain_io, mItems_ap, kIt_val, kIt_new, kIt_bor, kItB_fz, kItB_ow, kItB_io, kSrc_some, items_tup, items_lst, items_rol, mRng_ap, kRn_ap, kR_some, plainArg, val, new, negF, notF, lenF, absF, intF, boolF, max2F, min2F, tupleF, listF, fI, fI0, slF, isL, Rz.rv, eq_self, List.getElem?_cons_succ, List.getElem?_cons_zero, List.set_cons_succ, List.set_cons_zero, Option.map_some, Option.map_none, Option.bind_some, decide_true, decide_false, decide_not, Bool.not_true, Bool.not_false, Bool.true_and, Bool.and_true, Bool.false_and, Bool.and_false, Bool.true_or, Bool.or_true, Bool.false_or, Bool.or_false, List.nil_append, List.cons_append, List.append_nil, List.length_cons, List.length_nil, List.length_append, List.length_map, List.replicate_succ, List.replicate_zero, List.all_cons, List.all_nil, if_true, if_false, ite_true, ite_false, Nat.sub_self, Nat.reduceAdd, Nat.reduceSub, Nat.reduceLeDiff, Nat.reduceLT, List.take_succ_cons, List.take_zero, true_and, and_true, not_true, not_false_eq_true, and_self, List.nodup_nil, List.nodup_cons, List.mem_cons, List.not_mem_nil, or_false, false_or, List.map_cons, List.map_nil, List.map_append, Bool.decide_eq_true, Nat.zero_le, Bool.cond_true, Bool.cond_false, ↓reduceIte, reduceCtorEq, Int.reduceLT, Int.reduceLE, Int.reduceNeg, Int.reduceAdd, Int.reduceMul, Int.reduceSub, Int.reduceEq, Nat.reduceEqDiff, Nat.zero_add, id, c__law_term_drawn_1, w__law_term_drawn_1, neF_snoc, hc, pairD, n5, n6, n7, n8, c1, hk, e1, e2, L, sf]
  · -- a function with what is left
    have fn : 1 ≤ l ∨ dep + o ≤ 0 → (2 ≤ l ∨ dep + o ≤ 0) → Drawn o B (found ++ [-1]) (ps ++ [(l - 1, dep + 1)]) ∧ ([-1] : List Int).length + wts o [(l - 1, dep + 1)] ≤ wt o (l, dep) := fun _ q => by
      have w1 : wt o (l - 1, dep + 1) = if dep + 1 + o ≤ 0 then 2 * max (l - 1).toNat 1 else max (l - 1).toNat 1 := rfl
      have w2 : wt o (l - 1, dep + 1) + 1 ≤ wt o (l, dep) := by rw [w1, wl]; split <;> split <;> omega
      have w3 : ([-1] : List Int).length + wts o [(l - 1, dep + 1)] ≤ wt o (l, dep) := by rw [wts_one]; simp only [List.length_cons, List.length_nil]; omega
      refine ⟨hd.push _ (fun l' => rfl) (fun c hc => ?_) (fun q hq => ?_) w3, w3⟩
      · simp only [List.mem_singleton] at hc; subst hc; omega
      · simp only [List.mem_singleton] at hq; subst hq; simp only; omega
    by_cases c2 : l ≤ 2 ∨ (dep + o = 0 ∧ l < 4)
    · obtain ⟨g1, g2⟩ := fn (by omega) (by omega)
      refine ⟨[-1], [(l - 1, dep + 1)], d, .fz (.int l), .fz (.int dep), .fz (.int (dep + o)), s8, by simp, g1, g2, hD, rfl, rfl, rfl, h8, ?_⟩
      conv => lhs; rw [mWhile_eq]
      by_cases q1 : l ≤ 1
      · have hk : ¬ 0 < dep + o := fun h => c1 ⟨q1, h⟩
        have q2 : l ≤ 2 := by omega
        simp -implicitDefEqProofs only [kR_r1, kR_r2, kR_r3d, intsD, mFor_ap, kForS_ap, addF_ii, addF_tt, addF_ll, addF_ss, mulF_ii, mulF_tt, mulF_ll, subF_ii, ltF_ii, leF_ii, gtF_ii, geF_ii, modF_ii, divF_ii, powF_ii, cutD_lo, cutD_hi, cutD_mid, cutD_m1, mYes_ap, truD, isi_set_int, isi_set_bool, isi_set_tuple, isi_set_list, isi_set_str, isi_set_dict, mLc_ap, allF_f, anyF_f, isi_non_int, isi_bl_int, isi_int_int, isi_str_int, isi_tup_int, isi_lst_int, isi_dK_int, isi_dT_int, isi_non_bool, isi_bl_bool, isi_int_bool, isi_str_bool, isi_tup_bool, isi_lst_bool, isi_dK_bool, isi_dT_bool, isi_non_tuple, isi_bl_tuple, isi_int_tuple, isi_str_tuple, isi_tup_tuple, isi_lst_tuple, isi_dK_tuple, isi_dT_tuple, isi_non_list, isi_bl_list, isi_int_list, isi_str_list, isi_tup_list, isi_lst_list, isi_dK_list, isi_dT_list, isi_non_str, isi_bl_str, isi_int_str, isi_str_str, isi_tup_str, isi_lst_str, isi_dK_str, isi_dT_str, isi_non_dict, isi_bl_dict, isi_int_dict, isi_str_dict, isi_tup_dict, isi_lst_dict, isi_dK_dict, isi_dT_dict, eqF_int, neF_int, eqF_bl, neF_bl, eqF_T, neF_T, eqF_Tm, neF_Tm, bndR_ok, bndR_none, bnd_ap, ret_ap, stuck_ap, mVar_ap, kVar_fz, kVar_ow, kVar_io, mC_ap, content_val, content_new, content_bor, slD_fz, slD_ow, slD_io, rv_f, rv_t, val_eq, new_eq, kRz_some, kRz_none, kP1_some, prim1_ap, kP2_some, prim2_ap, mBin_ap, kBin_ap, kBin2_ap, mUn_ap, kUn_ap, mTest_ap, kTest_ap, mTruth_ap, kTruth_ap, kTru_some, mNotT_ap, kNot_ap, mAndT_ap, mOrT_ap, kAnd_t, kAnd_f, kOr_t, kOr_f, mIf_ap, mIte_ap, kIf_t, kIf_f, mAndV_ap, mOrV_ap, kAndV_t, kAndV_f, kOrV_t, kOrV_f, mChain_ap, kCh1_ap, kCh2_ap, kCh3_ap, kLink_t, kLink_f, mChain3_ap, kC31_ap, kC32_ap, settle_val, settle_new, settle_bor, kSl_fz, kSl_ow, kOk_some, mD_ap, kD_ap, mCons_ap, kCons1_ap, kCons2_ap, mNil_ap, mStar_ap, kStar_ap, kStar1_some, kStar2_ap, mTup_ap, mLst_ap, kTup_ok, kLst_ok, mDict0_ap, mNoPart_ap, mPart_ap, kPart_ap, mSl_ap, kS1_ap, kS2_ap, kS3_ap, kS4_some, mRNil_ap, mRCons_ap, kR1_ap, kR2_ap, contents_nil, contents_cons, kCts_some, mCallB_ap, kCB_ap, kCB1_some, mArg_ap, kArg_f, kArg_val, kArg_new, kArg_bor, kArB_ow, kArB_io, mANil_ap, mACons_ap, kA1_ap, kA2_ap, mCall_ap, kCall_ap, kCall1_some, kFin_ok, owned_ow, owned_io, owned_fz, slsOf_nil, slsOf_pl, slsOf_tp, slsOf_ob, kOb_some, back_nil, back_pl, back_tp, back_ob, obs_nil, obs_pl, obs_tp, obs_ob, tps_nil, tps_pl, tps_tp, tps_ob, setOwn_ap, kSO_ow, kSO_io, mMut_ap, kMut0_some, kMut_some, mHas_ap, kHas_lst, mAppend_ap, kApp_ap, mPop_ap, mExtend_ap, kExt_ap, kExt1_some, appF_ok, extF_ok, popF_snoc, mSeq_ap, kSeq_nx, kSeq_rt, kSeq_bk, kSeq_ct, mSkip_ap, mBrk_ap, mCnt_ap, mExpr_ap, kDrop_ap, mRet_ap, kRet_val, kRet_new, kRet_bor, kRetB_fz, kRetB_ow, mRetN_ap, kNx_some, mSet_ap, kSet_ap, setSl_ap, kSS_no, kSS_fz, kSS_ow, kSS_pl, z1, z2, z3, z4, z5, z6, z7, z8, z9, z10, z11, z12, z13, z14, z15, z16, z17, z18, z19, z20, ixF_lst0, ixF_lst1, ixF_lst2, ixF_lst3, ixF_lstm, ixF_tup0, ixF_tup1, ixF_tup2, ixF_tup3, ixF_tupm, ixF_rol0, ixF_rol1, ixF_rol2, ixF_rol3, ixF_rolm, setF_0, setF_1, setF_2, setF_3, putRv_val, putRv_new, putRv_bor, noIo_no, noIo_fz, noIo_ow, mAsg_ap, kAsg_ap, gNm_ap, gTp_ap, gsNil_ap, gsCons_ap, mSt_ap, kSt_val, kSt_new, kSt_bor, mPNil_ap, mPCons_ap, kPC1_ap, mPar_ap, kPar_ap, putN_nil, putN_cons, mAug_ap, kAug_fz, kAug1_ap, mSetIx_ap, kIx_ap, kIx1_some, kIx2_ap, kIx3_some, kIx5_some, kIx4_some, setF_ok, mTurn_ap, kTurn_nx, kTurn_ct, kTurn_bk, kTurn_rt, kWh_t, kWh_f, forF_nil, kFor_some, semFn_ap, kFn_rt, kFn_nx, plain_fz, plain_io, mItems_ap, kIt_val, kIt_new, kIt_bor, kItB_fz, kItB_ow, kItB_io, kSrc_some, items_tup, items_lst, items_rol, mRng_ap, kRn_ap, kR_some, plainArg, val, new, negF, notF, lenF, absF, intF, boolF, max2F, min2F, tupleF, listF, fI, fI0, slF, isL, Rz.rv, eq_self, List.getElem?_cons_succ, List.getElem?_cons_zero, List.set_cons_succ, List.set_cons_zero, Option.map_some, Option.map_none, Option.bind_some, decide_true, decide_false, decide_not, Bool.not_true, Bool.not_false, Bool.true_and, Bool.and_true, Bool.false_and, Bool.and_false, Bool.true_or, Bool.or_true, Bool.false_or, Bool.or_false, List.nil_append, List.cons_append, List.append_nil, List.length_cons, List.length_nil, List.length_append, List.length_map, List.replicate_succ, List.replicate_zero, List.all_cons, List.all_nil, if_true, if_false, ite_true, ite_false, Nat.sub_self, Nat.reduceAdd, Nat.reduceSub, Nat.reduceLeDiff, Nat.reduceLT, List.take_succ_cons, List.take_zero, true_and, and_true, not_true, not_false_eq_true, and_self, List.nodup_nil, List.nodup_cons, List.mem_cons, List.not_mem_nil, or_false, false_or, List.map_cons, List.map_nil, List.map_append, Bool.decide_eq_true, Nat.zero_le, Bool.cond_true, Bool.cond_false, ↓reduceIte, reduceCtorEq, Int.reduceLT, Int.reduceLE, Int.reduceNeg, Int.reduceAdd, Int.reduceMul, Int.reduceSub, Int.reduceEq, Nat.reduceEqDiff, Nat.zero_add, id, c__law_term_drawn_1, w__law_term_drawn_1, neF_snoc, hc, pairD, n5, n6, n7, n8, q1, q2, hk, L, sf, sps]
      · by_cases q2 : l ≤ 2
        · simp -implicitDefEqProofs only [kR_r1, kR_r2, kR_r3d, intsD, mFor_ap, kForS_ap, addF_ii, addF_tt, addF_ll, addF_ss, mulF_ii, mulF_tt, mulF_ll, subF_ii, ltF_ii, leF_ii, gtF_ii, geF_ii, modF_ii, divF_ii, powF_ii, cutD_lo, cutD_hi, cutD_mid, cutD_m1, mYes_ap, truD, isi_set_int, isi_set_bool, isi_set_tuple, isi_set_list, isi_set_str, isi_set_dict, mLc_ap, allF_f, anyF_f, isi_non_int, isi_bl_int, isi_int_int, isi_str_int, isi_tup_int, isi_lst_int, isi_dK_int, isi_dT_int, isi_non_bool, isi_bl_bool, isi_int_bool, isi_str_bool, isi_tup_bool, isi_lst_bool, isi_dK_bool, isi_dT_bool, isi_non_tuple, isi_bl_tuple, isi_int_tuple, isi_str_tuple, isi_tup_tuple, isi_lst_tuple, isi_dK_tuple, isi_dT_tuple, isi_non_list, isi_bl_list, isi_int_list, isi_str_list, isi_tup_list, isi_lst_list, isi_dK_list, isi_dT_list, isi_non_str, isi_bl_str, isi_int_str, isi_str_str, isi_tup_str, isi_lst_str, isi_dK_str, isi_dT_str, isi_non_dict, isi_bl_dict, isi_int_dict, isi_str_dict, isi_tup_dict, isi_lst_dict, isi_dK_dict, isi_dT_dict, eqF_int, neF_int, eqF_bl, neF_bl, eqF_T, neF_T, eqF_Tm, neF_Tm, bndR_ok, bndR_none, bnd_ap, ret_ap, stuck_ap, mVar_ap, kVar_fz, kVar_ow, kVar_io, mC_ap, content_val, content_new, content_bor, slD_fz, slD_ow, slD_io, rv_f, rv_t, val_eq, new_eq, kRz_some, kRz_none, kP1_some, prim1_ap, kP2_some, prim2_ap, mBin_ap, kBin_ap, kBin2_ap, mUn_ap, kUn_ap, mTest_ap, kTest_ap, mTruth_ap, kTruth_ap, kTru_some, mNotT_ap, kNot_ap, mAndT_ap, mOrT_ap, kAnd_t, kAnd_f, kOr_t, kOr_f, mIf_ap, mIte_ap, kIf_t, kIf_f, mAndV_ap, mOrV_ap, kAndV_t, kAndV_f, kOrV_t, kOrV_f, mChain_ap, kCh1_ap, kCh2_ap, kCh3_ap, kLink_t, kLink_f, mChain3_ap, kC31_ap, kC32_ap, settle_val, settle_new, settle_bor, kSl_fz, kSl_ow, kOk_some, mD_ap, kD_ap, mCons_ap, kCons1_ap, kCons2_ap, mNil_ap, mStar_ap, kStar_ap, kStar1_some, kStar2_ap, mTup_ap, mLst_ap, kTup_ok, kLst_ok, mDict0_ap, mNoPart_ap, mPart_ap, kPart_ap, mSl_ap, kS1_ap, kS2_ap, kS3_ap, kS4_some, mRNil_ap, mRCons_ap, kR1_ap, kR2_ap, contents_nil, contents_cons, kCts_some, mCallB_ap, kCB_ap, kCB1_some, mArg_ap, kArg_f, kArg_val, kArg_new, kArg_bor, kArB_ow, kArB_io, mANil_ap, mACons_ap, kA1_ap, kA2_ap, mCall_ap, kCall_ap, kCall1_some, kFin_ok, owned_ow, owned_io, owned_fz, slsOf_nil, slsOf_pl, slsOf_tp, slsOf_ob, kOb_some, back_nil, back_pl, back_tp, back_ob, obs_nil, obs_pl, obs_tp, obs_ob, tps_nil, tps_pl, tps_tp, tps_ob, setOwn_ap, kSO_ow, kSO_io, mMut_ap, kMut0_some, kMut_some, mHas_ap, kHas_lst, mAppend_ap, kApp_ap, mPop_ap, mExtend_ap, kExt_ap, kExt1_some, appF_ok, extF_ok, popF_snoc, mSeq_ap, kSeq_nx, kSeq_rt, kSeq_bk, kSeq_ct, mSkip_ap, mBrk_ap, mCnt_ap, mExpr_ap, kDrop_ap, mRet_ap, kRet_val, kRet_new, kRet_bor, kRetB_fz, kRetB_ow, mRetN_ap, kNx_some, mSet_ap, kSet_ap, setSl_ap, kSS_no, kSS_fz, kSS_ow, kSS_pl, z1, z2, z3, z4, z5, z6, z7, z8, z9, z10, z11, z12, z13, z14, z15, z16, z17, z18, z19, z20, ixF_lst0, ixF_lst1, ixF_lst2, ixF_lst3, ixF_lstm, ixF_tup0, ixF_tup1, ixF_tup2, ixF_tup3, ixF_tupm, ixF_rol0, ixF_rol1, ixF_rol2, ixF_rol3, ixF_rolm, setF_0, setF_1, setF_2, setF_3, putRv_val, putRv_new, putRv_bor, noIo_no, noIo_fz, noIo_ow, mAsg_ap, kAsg_ap, gNm_ap, gTp_ap, gsNil_ap, gsCons_ap, mSt_ap, kSt_val, kSt_new, kSt_bor, mPNil_ap, mPCons_ap, kPC1_ap, mPar_ap, kPar_ap, putN_nil, putN_cons, mAug_ap, kAug_fz, kAug1_ap, mSetIx_ap, kIx_ap, kIx1_some, kIx2_ap, kIx3_some, kIx5_some, kIx4_some, setF_ok, mTurn_ap, kTurn_nx, kTurn_ct, kTurn_bk, kTurn_rt, kWh_t, kWh_f, forF_nil, kFor_some, semFn_ap, kFn_rt, kFn_nx, plain_fz, plain_io, mItems_ap, kIt_val, kIt_new, kIt_bor, kItB_fz, kItB_ow, kItB_io, kSrc_some, items_tup, items_lst, items_rol, mRng_ap, kRn_ap, kR_some, plainArg, val, new, negF, notF, lenF, absF, intF, boolF, max2F, min2F, tupleF, listF, fI, fI0, slF, isL, Rz.rv, eq_self, List.getElem?_cons_succ, List.getElem?_cons_zero, List.set_cons_succ, List.set_cons_zero, Option.map_some, Option.map_none, Option.bind_some, decide_true, decide_false, decide_not, Bool.not_true, Bool.not_false, Bool.true_and, Bool.and_true, Bool.false_and, Bool.and_false, Bool.true_or, Bool.or_true, Bool.false_or, Bool.or_false, List.nil_append, List.cons_append, List.append_nil, List.length_cons, List.length_nil, List.length_append, List.length_map, List.replicate_succ, List.replicate_zero, List.all_cons, List.all_nil, if_true, if_false, ite_true, ite_false, Nat.sub_self, Nat.reduceAdd, Nat.reduceSub, Nat.reduceLeDiff, Nat.reduceLT, List.take_succ_cons, List.take_zero, true_and, and_true, not_true, not_false_eq_true, and_self, List.nodup_nil, List.nodup_cons, List.mem_cons, List.not_mem_nil, or_false, false_or, List.map_cons, List.map_nil, List.map_append, Bool.decide_eq_true, Nat.zero_le, Bool.cond_true, Bool.cond_false, ↓reduceIte, reduceCtorEq, Int.reduceLT, Int.reduceLE, Int.reduceNeg, Int.reduceAdd, Int.reduceMul, Int.reduceSub, Int.reduceEq, Nat.reduceEqDiff, Nat.zero_add, id, c__law_term_drawn_1, w__law_term_drawn_1, neF_snoc, hc, pairD, n5, n6, n7, n8, q1, q2, L, sf, sps]
        · have q3 : dep + o = 0 := by omega
          have q4 : l < 4 := by omega
          simp -implicitDefEqProofs only [kR_r1, kR_r2, kR_r3d, intsD, mFor_ap, kForS_ap, addF_ii, addF_tt, addF_ll, addF_ss, mulF_ii, mulF_tt, mulF_ll, subF_ii, ltF_ii, leF_ii, gtF_ii, geF_ii, modF_ii, divF_ii, powF_ii, cutD_lo, cutD_hi, cutD_mid, cutD_m1, mYes_ap, truD, isi_set_int, isi_set_bool, isi_set_tuple, isi_set_list, isi_set_str, isi_set_dict, mLc_ap, allF_f, anyF_f, isi_non_int, isi_bl_int, isi_int_int, isi_str_int, isi_tup_int, isi_lst_int, isi_dK_int, isi_dT_int, isi_non_bool, isi_bl_bool, isi_int_bool, isi_str_bool, isi_tup_bool, isi_lst_bool, isi_dK_bool, isi_dT_bool, isi_non_tuple, isi_bl_tuple, isi_int_tuple, isi_str_tuple, isi_tup_tuple, isi_lst_tuple, isi_dK_tuple, isi_dT_tuple, isi_non_list, isi_bl_list, isi_int_list, isi_str_list, isi_tup_list, isi_lst_list, isi_dK_list, isi_dT_list, isi_non_str, isi_bl_str, isi_int_str, isi_str_str, isi_tup_str, isi_lst_str, isi_dK_str, isi_dT_str, isi_non_dict, isi_bl_dict, isi_int_dict, isi_str_dict, isi_tup_dict, isi_lst_dict, isi_dK_dict, isi_dT_dict, eqF_int, neF_int, eqF_bl, neF_bl, eqF_T, neF_T, eqF_Tm, neF_Tm, bndR_ok, bndR_none, bnd_ap, ret_ap, stuck_ap, mVar_ap, kVar_fz, kVar_ow, kVar_io, mC_ap, content_val, content_new, content_bor, slD_fz, slD_ow, slD_io, rv_f, rv_t, val_eq, new_eq, kRz_some, kRz_none, kP1_some, prim1_ap, kP2_some, prim2_ap, mBin_ap, kBin_ap, kBin2_ap, mUn_ap, kUn_ap, mTest_ap, kTest_ap, mTruth_ap, kTruth_ap, kTru_some, mNotT_ap, kNot_ap, mAndT_ap, mOrT_ap, kAnd_t, kAnd_f, kOr_t, kOr_f, mIf_ap, mIte_ap, kIf_t, kIf_f, mAndV_ap, mOrV_ap, kAndV_t, kAndV_f, kOrV_t, kOrV_f, mChain_ap, kCh1_ap, kCh2_ap, kCh3_ap, kLink_t, kLink_f, mChain3_ap, kC31_ap, kC32_ap, settle_val, settle_new, settle_bor, kSl_fz, kSl_ow, kOk_some, mD_ap, kD_ap, mCons_ap, kCons1_ap, kCons2_ap, mNil_ap, mStar_ap, kStar_ap, kStar1_some, kStar2_ap, mTup_ap, mLst_ap, kTup_ok, kLst_ok, mDict0_ap, mNoPart_ap, mPart_ap, kPart_ap, mSl_ap, kS1_ap, kS2_ap, kS3_ap, kS4_some, mRNil_ap, mRCons_ap, kR1_ap, kR2_ap, contents_nil, contents_cons, kCts_some, mCallB_ap, kCB_ap, kCB1_some, mArg_ap, kArg_f, kArg_val, kArg_new, kArg_bor, kArB_ow, kArB_io, mANil_ap, mACons_ap, kA1_ap, kA2_ap, mCall_ap, kCall_ap, kCall1_some, kFin_ok, owned_ow, owned_io, owned_fz, slsOf_nil, slsOf_pl, slsOf_tp, slsOf_ob, kOb_some, back_nil, back_pl, back_tp, back_ob, obs_nil, obs_pl, obs_tp, obs_ob, tps_nil, tps_pl, tps_tp, tps_ob, setOwn_ap, kSO_ow, kSO_io, mMut_ap, kMut0_some, kMut_some, mHas_ap, kHas_lst, mAppend_ap, kApp_ap, mPop_ap, mExtend_ap, kExt_ap, kExt1_some, appF_ok, extF_ok, popF_snoc, mSeq_ap, kSeq_nx, kSeq_rt, kSeq_bk, kSeq_ct, mSkip_ap, mBrk_ap, mCnt_ap, mExpr_ap, kDrop_ap, mRet_ap, kRet_val, kRet_new, kRet_bor, kRetB_fz, kRetB_ow, mRetN_ap, kNx_some, mSet_ap, kSet_ap, setSl_ap, kSS_no, kSS_fz, kSS_ow, kSS_pl, z1, z2, z3, z4, z5, z6, z7, z8, z9, z10, z11, z12, z13, z14, z15, z16, z17, z18, z19, z20, ixF_lst0, ixF_lst1, ixF_lst2, ixF_lst3, ixF_lstm, ixF_tup0, ixF_tup1, ixF_tup2, ixF_tup3, ixF_tupm, ixF_rol0, ixF_rol1, ixF_rol2, ixF_rol3, ixF_rolm, setF_0, setF_1, setF_2, setF_3, putRv_val, putRv_new, putRv_bor, noIo_no, noIo_fz, noIo_ow, mAsg_ap, kAsg_ap, gNm_ap, gTp_ap, gsNil_ap, gsCons_ap, mSt_ap, kSt_val, kSt_new, kSt_bor, mPNil_ap, mPCons_ap, kPC1_ap, mPar_ap, kPar_ap, putN_nil, putN_cons, mAug_ap, kAug_fz, kAug1_ap, mSetIx_ap, kIx_ap, kIx1_some, kIx2_ap, kIx3_some, kIx5_some, kIx4_some, setF_ok, mTurn_ap, kTurn_nx, kTurn_ct, kTurn_bk, kTurn_rt, kWh_t, kWh_f, forF_nil, kFor_some, semFn_ap, kFn_rt, kFn_nx, plain_fz, plain_io, mItems_ap, kIt_val, kIt_new, kIt_bor, kItB_fz, kItB_ow, kItB_io, kSrc_some, items_tup, items_lst, items_rol, mRng_ap, kRn_ap, kR_some, plainArg, val, new, negF, notF, lenF, absF, intF, boolF, max2F, min2F, tupleF, listF, fI, fI0, slF, isL, Rz.rv, eq_self, List.getElem?_cons_succ, List.getElem?_cons_zero, List.set_cons_succ, List.set_cons_zero, Option.map_some, Option.map_none, Option.bind_some, decide_true, decide_false, decide_not, Bool.not_true, Bool.not_false, Bool.true_and, Bool.and_true, Bool.false_and, Bool.and_false, Bool.true_or, Bool.or_true, Bool.false_or, Bool.or_false, List.nil_append, List.cons_append, List.append_nil, List.length_cons, List.length_nil, List.length_append, List.length_map, List.replicate_succ, List.replicate_zero, List.all_cons, List.all_nil, if_true, if_false, ite_true, ite_false, Nat.sub_self, Nat.reduceAdd, Nat.reduceSub, Nat.reduceLeDiff, Nat.reduceLT, List.take_succ_cons, List.take_zero, true_and, and_true, not_true, not_false_eq_true, and_self, List.nodup_nil, List.nodup_cons, List.mem_cons, List.not_mem_nil, or_false, false_or, List.map_cons, List.map_nil, List.map_append, Bool.decide_eq_true, Nat.zero_le, Bool.cond_true, Bool.cond_false, ↓reduceIte, reduceCtorEq, Int.reduceLT, Int.reduceLE, Int.reduceNeg, Int.reduceAdd, Int.reduceMul, Int.reduceSub, Int.reduceEq, Nat.reduceEqDiff, Nat.zero_add, id, c__law_term_drawn_1, w__law_term_drawn_1, neF_snoc, hc, pairD, n5, n6, n7, n8, q1, q2, q3, q4, L, sf, sps]
    · have q1 : ¬ l ≤ 1 := by omega
      have q2 : ¬ l ≤ 2 := by omega
      have q3 : ¬ (dep + o = 0 ∧ l < 4) := by omega
      -- the roll of 9, from 4 parts on
      obtain ⟨r9, d9, hD9, a9, b9, e9⟩ := roll_ok hD (n := 9) (by omega) (by omega)
      by_cases c3 : 4 ≤ l ∧ r9 < 4
      · obtain ⟨q5, q6⟩ := c3
        obtain ⟨ri, d1, hD1, a1, b1, e1⟩ := roll_ok hD9 (n := l - 3) (by omega) (by omega)
        have w1 : wt o (l - 2 - (1 + ri), dep) = if dep + o ≤ 0 then 2 * max (l - 2 - (1 + ri)).toNat 1 else max (l - 2 - (1 + ri)).toNat 1 := rfl
        have w2 : wt o (1 + ri, dep + 1) = if dep + 1 + o ≤ 0 then 2 * max (1 + ri).toNat 1 else max (1 + ri).toNat 1 := rfl
        have w3 : 2 + (wt o (l - 2 - (1 + ri), dep) + wt o (1 + ri, dep + 1)) ≤ wt o (l, dep) := by rw [w1, w2, wl]; split <;> split <;> omega
        have w5 := wt_pos o (l - 2 - (1 + ri), dep)
        have w4 : ([0, -1] : List Int).length + wts o [(l - 2 - (1 + ri), dep), (1 + ri, dep + 1)] ≤ wt o (l, dep) := by rw [wts_two]; simpa using w3
        have w6 := wt_pos o (1 + ri, dep + 1)
        refine ⟨[0, -1], [(l - 2 - (1 + ri), dep), (1 + ri, dep + 1)], d1, .fz (.int l), .fz (.int dep), .fz (.int (dep + o)), .fz (.int (1 + ri)), by simp, hd.push _ (fun l' => rfl) (fun c hc => ?_) (fun q hq => ?_) w4, w4, hD1, rfl, rfl, rfl, rfl, ?_⟩
        · simp only [List.mem_cons, List.not_mem_nil, or_false] at hc; omega
        · simp only [List.mem_cons, List.not_mem_nil, or_false] at hq
          rcases hq with rfl | rfl <;> simp only <;> omega
        · conv => lhs; rw [mWhile_eq]
          by_cases q7 : dep + o = 0
          · have q4 : ¬ l < 4 := by omega
            simp -implicitDefEqProofs only [kR_r1, kR_r2, kR_r3d, intsD, mFor_ap, kForS_ap, addF_ii, addF_tt, addF_ll, addF_ss, mulF_ii, mulF_tt, mulF_ll, subF_ii, ltF_ii, leF_ii, gtF_ii, geF_ii, modF_ii, divF_ii, powF_ii, cutD_lo, cutD_hi, cutD_mid, cutD_m1, mYes_ap, truD, isi_set_int, isi_set_bool, isi_set_tuple, isi_set_list, isi_set_str, isi_set_dict, mLc_ap, allF_f, anyF_f, isi_non_int, isi_bl_int, isi_int_int, isi_str_int, isi_tup_int, isi_lst_int, isi_dK_int, isi_dT_int, isi_non_bool, isi_bl_bool, isi_int_bool, isi_str_bool, isi_tup_bool, isi_lst_bool, isi_dK_bool, isi_dT_bool, isi_non_tuple, isi_bl_tuple, isi_int_tuple, isi_str_tuple, isi_tup_tuple, isi_lst_tuple, isi_dK_tuple, isi_dT_tuple, isi_non_list, isi_bl_list, isi_int_list, isi_str_list, isi_tup_list, isi_lst_list, isi_dK_list, isi_dT_list, isi_non_str, isi_bl_str, isi_int_str, isi_str_str, isi_tup_str, isi_lst_str, isi_dK_str, isi_dT_str, isi_non_dict, isi_bl_dict, isi_int_dict, isi_str_dict, isi_tup_dict, isi_lst_dict, isi_dK_dict, isi_dT_dict, eqF_int, neF_int, eqF_bl, neF_bl, eqF_T, neF_T, eqF_Tm, neF_Tm, bndR_ok, bndR_none, bnd_ap, ret_ap, stuck_ap, mVar_ap, kVar_fz, kVar_ow, kVar_io, mC_ap, content_val, content_new, content_bor, slD_fz, slD_ow, slD_io, rv_f, rv_t, val_eq, new_eq, kRz_some, kRz_none, kP1_some, prim1_ap, kP2_some, prim2_ap, mBin_ap, kBin_ap, kBin2_ap, mUn_ap, kUn_ap, mTest_ap, kTest_ap, mTruth_ap, kTruth_ap, kTru_some, mNotT_ap, kNot_ap, mAndT_ap, mOrT_ap, kAnd_t, kAnd_f, kOr_t, kOr_f, mIf_ap, mIte_ap, kIf_t, kIf_f, mAndV_ap, mOrV_ap, kAndV_t, kAndV_f, kOrV_t, kOrV_f, mChain_ap, kCh1_ap, kCh2_ap, kCh3_ap, kLink_t, kLink_f, mChain3_ap, kC31_ap, kC32_ap, settle_val, settle_new, settle_bor, kSl_fz, kSl_ow, kOk_some, mD_ap, kD_ap, mCons_ap, kCons1_ap, kCons2_ap, mNil_ap, mStar_ap, kStar_ap, kStar1_some, kStar2_ap, mTup_ap, mLst_ap, kTup_ok, kLst_ok, mDict0_ap, mNoPart_ap, mPart_ap, kPart_ap, mSl_ap, kS1_ap, kS2_ap, kS3_ap, kS4_some, mRNil_ap, mRCons_ap, kR1_ap, kR2_ap, contents_nil, contents_cons, kCts_some, mCallB_ap, kCB_ap, kCB1_some, mArg_ap, kArg_f, kArg_val, kArg_new, kArg_bor, kArB_ow, kArB_io, mANil_ap, mACons_ap, kA1_ap, kA2_ap, mCall_ap, kCall_ap, kCall1_some, kFin_ok, owned_ow, owned_io, owned_fz, slsOf_nil, slsOf_pl, slsOf_tp, slsOf_ob, kOb_some, back_nil, back_pl, back_tp, back_ob, obs_nil, obs_pl, obs_tp, obs_ob, tps_nil, tps_pl, tps_tp, tps_ob, setOwn_ap, kSO_ow, kSO_io, mMut_ap, kMut0_some, kMut_some, mHas_ap, kHas_lst, mAppend_ap, kApp_ap, mPop_ap, mExtend_ap, kExt_ap, kExt1_some, appF_ok, extF_ok, popF_snoc, mSeq_ap, kSeq_nx, kSeq_rt, kSeq_bk, kSeq_ct, mSkip_ap, mBrk_ap, mCnt_ap, mExpr_ap, kDrop_ap, mRet_ap, kRet_val, kRet_new, kRet_bor, kRetB_fz, kRetB_ow, mRetN_ap, kNx_some, mSet_ap, kSet_ap, setSl_ap, kSS_no, kSS_fz, kSS_ow, kSS_pl, z1, z2, z3, z4, z5, z6, z7, z8, z9, z10, z11, z12, z13, z14, z15, z16, z17, z18, z19, z20, ixF_lst0, ixF_lst1, ixF_lst2, ixF_lst3, ixF_lstm, ixF_tup0, ixF_tup1, ixF_tup2, ixF_tup3, ixF_tupm, ixF_rol0, ixF_rol1, ixF_rol2, ixF_rol3, ixF_rolm, setF_0, setF_1, setF_2, setF_3, putRv_val, putRv_new, putRv_bor, noIo_no, noIo_fz, noIo_ow, mAsg_ap, kAsg_ap, gNm_ap, gTp_ap, gsNil_ap, gsCons_ap, mSt_ap, kSt_val, kSt_new, kSt_bor, mPNil_ap, mPCons_ap, kPC1_ap, mPar_ap, kPar_ap, putN_nil, putN_cons, mAug_ap, kAug_fz, kAug1_ap, mSetIx_ap, kIx_ap, kIx1_some, kIx2_ap, kIx3_some, kIx5_some, kIx4_some, setF_ok, mTurn_ap, kTurn_nx, kTurn_ct, kTurn_bk, kTurn_rt, kWh_t, kWh_f, forF_nil, kFor_some, semFn_ap, kFn_rt, kFn_nx, plain_fz, plain_io, mItems_ap, kIt_val, kIt_new, kIt_bor, kItB_fz, kItB_ow, kItB_io, kSrc_some, items_tup, items_lst, items_rol, mRng_ap, kRn_ap, kR_some, plainArg, val, new, negF, notF, lenF, absF, intF, boolF, max2F, min2F, tupleF, listF, fI, fI0, slF, isL, Rz.rv, eq_self, List.getElem?_cons_succ, List.getElem?_cons_zero, List.set_cons_succ, List.set_cons_zero, Option.map_some, Option.map_none, Option.bind_some, decide_true, decide_false, decide_not, Bool.not_true, Bool.not_false, Bool.true_and, Bool.and_true, Bool.false_and, Bool.and_false, Bool.true_or, Bool.or_true, Bool.false_or, Bool.or_false, List.nil_append, List.cons_append, List.append_nil, List.length_cons, List.length_nil, List.length_append, List.length_map, List.replicate_succ, List.replicate_zero, List.all_cons, List.all_nil, if_true, if_false, ite_true, ite_false, Nat.sub_self, Nat.reduceAdd, Nat.reduceSub, Nat.reduceLeDiff, Nat.reduceLT, List.take_succ_cons, List.take_zero, true_and, and_true, not_true, not_false_eq_true, and_self, List.nodup_nil, List.nodup_cons, List.mem_cons, List.not_mem_nil, or_false, false_or, List.map_cons, List.map_nil, List.map_append, Bool.decide_eq_true, Nat.zero_le, Bool.cond_true, Bool.cond_false, ↓reduceIte, reduceCtorEq, Int.reduceLT, Int.reduceLE, Int.reduceNeg, Int.reduceAdd, Int.reduceMul, Int.reduceSub, Int.reduceEq, Nat.reduceEqDiff, Nat.zero_add, id, c__law_term_drawn_1, w__law_term_drawn_1, neF_snoc, hc, pairD, n5, n6, n7, n8, q1, q2, q7, q4, q5, q6, e9, e1, L, sf2, sps2]
          · simp -implicitDefEqProofs only [kR_r1, kR_r2, kR_r3d, intsD, mFor_ap, kForS_ap, addF_ii, addF_tt, addF_ll, addF_ss, mulF_ii, mulF_tt, mulF_ll, subF_ii, ltF_ii, leF_ii, gtF_ii, geF_ii, modF_ii, divF_ii, powF_ii, cutD_lo, cutD_hi, cutD_mid, cutD_m1, mYes_ap, truD, isi_set_int, isi_set_bool, isi_set_tuple, isi_set_list, isi_set_str, isi_set_dict, mLc_ap, allF_f, anyF_f, isi_non_int, isi_bl_int, isi_int_int, isi_str_int, isi_tup_int, isi_lst_int, isi_dK_int, isi_dT_int, isi_non_bool, isi_bl_bool, isi_int_bool, isi_str_bool, isi_tup_bool, isi_lst_bool, isi_dK_bool, isi_dT_bool, isi_non_tuple, isi_bl_tuple, isi_int_tuple, isi_str_tuple, isi_tup_tuple, isi_lst_tuple, isi_dK_tuple, isi_dT_tuple, isi_non_list, isi_bl_list, isi_int_list, isi_str_list, isi_tup_list, isi_lst_list, isi_dK_list, isi_dT_list, isi_non_str, isi_bl_str, isi_int_str, isi_str_str, isi_tup_str, isi_lst_str, isi_dK_str, isi_dT_str, isi_non_dict, isi_bl_dict, isi_int_dict, isi_str_dict, isi_tup_dict, isi_lst_dict, isi_dK_dict, isi_dT_dict, eqF_int, neF_int, eqF_bl, neF_bl, eqF_T, neF_T, eqF_Tm, neF_Tm, bndR_ok, bndR_none, bnd_ap, ret_ap, stuck_ap, mVar_ap, kVar_fz, kVar_ow, kVar_io, mC_ap, content_val, content_new, content_bor, slD_fz, slD_ow, slD_io, rv_f, rv_t, val_eq, new_eq, kRz_some, kRz_none, kP1_some, prim1_ap, kP2_some, prim2_ap, mBin_ap, kBin_ap, kBin2_ap, mUn_ap, kUn_ap, mTest_ap, kTest_ap, mTruth_ap, kTruth_ap, kTru_some, mNotT_ap, kNot_ap, mAndT_ap, mOrT_ap, kAnd_t, kAnd_f, kOr_t, kOr_f, mIf_ap, mIte_ap, kIf_t, kIf_f, mAndV_ap, mOrV_ap, kAndV_t, kAndV_f, kOrV_t, kOrV_f, mChain_ap, kCh1_ap, kCh2_ap, kCh3_ap, kLink_t, kLink_f, mChain3_ap, kC31_ap, kC32_ap, settle_val, settle_new, settle_bor, kSl_fz, kSl_ow, kOk_some, mD_ap, kD_ap, mCons_ap, kCons1_ap, kCons2_ap, mNil_ap, mStar_ap, kStar_ap, kStar1_some, kStar2_ap, mTup_ap, mLst_ap, kTup_ok, kLst_ok, mDict0_ap, mNoPart_ap, mPart_ap, kPart_ap, mSl_ap, kS1_ap, kS2_ap, kS3_ap, kS4_some, mRNil_ap, mRCons_ap, kR1_ap, kR2_ap, contents_nil, contents_cons, kCts_some, mCallB_ap, kCB_ap, kCB1_some, mArg_ap, kArg_f, kArg_val, kArg_new, kArg_bor, kArB_ow, kArB_io, mANil_ap, mACons_ap, kA1_ap, kA2_ap, mCall_ap, kCall_ap, kCall1_some, kFin_ok, owned_ow, owned_io, owned_fz, slsOf_nil, slsOf_pl, slsOf_tp, slsOf_ob, kOb_some, back_nil, back_pl, back_tp, back_ob, obs_nil, obs_pl, obs_tp, obs_ob, tps_nil, tps_pl, tps_tp, tps_ob, setOwn_ap, kSO_ow, kSO_io, mMut_ap, kMut0_some, kMut_some, mHas_ap, kHas_lst, mAppend_ap, kApp_ap, mPop_ap, mExtend_ap, kExt_ap, kExt1_some, appF_ok, extF_ok, popF_snoc, mSeq_ap, kSeq_nx, kSeq_rt, kSeq_bk, kSeq_ct, mSkip_ap, mBrk_ap, mCnt_ap, mExpr_ap, kDrop_ap, mRet_ap, kRet_val, kRet_new, kRet_bor, kRetB_fz, kRetB_ow, mRetN_ap, kNx_some, mSet_ap, kSet_ap, setSl_ap, kSS_no, kSS_fz, kSS_ow, kSS_pl, z1, z2, z3, z4, z5, z6, z7, z8, z9, z10, z11, z12, z13, z14, z15, z16, z17, z18, z19, z20, ixF_lst0, ixF_lst1, ixF_lst2, ixF_lst3, ixF_lstm, ixF_tup0, ixF_tup1, ixF_tup2, ixF_tup3, ixF_tupm, ixF_rol0, ixF_rol1, ixF_rol2, ixF_rol3, ixF_rolm, setF_0, setF_1, setF_2, setF_3, putRv_val, putRv_new, putRv_bor, noIo_no, noIo_fz, noIo_ow, mAsg_ap, kAsg_ap, gNm_ap, gTp_ap, gsNil_ap, gsCons_ap, mSt_ap, kSt_val, kSt_new, kSt_bor, mPNil_ap, mPCons_ap, kPC1_ap, mPar_ap, kPar_ap, putN_nil, putN_cons, mAug_ap, kAug_fz, kAug1_ap, mSetIx_ap, kIx_ap, kIx1_some, kIx2_ap, kIx3_some, kIx5_some, kIx4_some, setF_ok, mTurn_ap, kTurn_nx, kTurn_ct, kTurn_bk, kTurn_rt, kWh_t, kWh_f, forF_nil, kFor_some, semFn_ap, kFn_rt, kFn_nx, plain_fz, plain_io, mItems_ap, kIt_val, kIt_new, kIt_bor, kItB_fz, kItB_ow, kItB_io, kSrc_some, items_tup, items_lst, items_rol, mRng_ap, kRn_ap, kR_some, plainArg, val, new, negF, notF, lenF, absF, intF, boolF, max2F, min2F, tupleF, listF, fI, fI0, slF, isL, Rz.rv, eq_self, List.getElem?_cons_succ, List.getElem?_cons_zero, List.set_cons_succ, List.set_cons_zero, Option.map_some, Option.map_none, Option.bind_some, decide_true, decide_false, decide_not, Bool.not_true, Bool.not_false, Bool.true_and, Bool.and_true, Bool.false_and, Bool.and_false, Bool.true_or, Bool.or_true, Bool.false_or, Bool.or_false, List.nil_append, List.cons_append, List.append_nil, List.length_cons, List.length_nil, List.length_append, List.length_map, List.replicate_succ, List.replicate_zero, List.all_cons, List.all_nil, if_true, if_false, ite_true, ite_false, Nat.sub_self, Nat.reduceAdd, Nat.reduceSub, Nat.reduceLeDiff, Nat.reduceLT, List.take_succ_cons, List.take_zero, true_and, and_true, not_true, not_false_eq_true, and_self, List.nodup_nil, List.nodup_cons, List.mem_cons, List.not_mem_nil, or_false, false_or, List.map_cons, List.map_nil, List.map_append, Bool.decide_eq_true, Nat.zero_le, Bool.cond_true, Bool.cond_false, ↓reduceIte, reduceCtorEq, Int.reduceLT, Int.reduceLE, Int.reduceNeg, Int.reduceAdd, Int.reduceMul, Int.reduceSub, Int.reduceEq, Nat.reduceEqDiff, Nat.zero_add, id, c__law_term_drawn_1, w__law_term_drawn_1, neF_snoc, hc, pairD, n5, n6, n7, n8, q1, q2, q7, q5, q6, e9, e1, L, sf2, sps2]
      · by_cases q5 : 4 ≤ l
        · have q6 : ¬ r9 < 4 := by omega
          obtain ⟨r4, d4, hD4, a4, b4, e4⟩ := roll_ok hD9 (n := 4) (by omega) (by omega)
          by_cases q9 : r4 = 0
          · obtain ⟨g1, g2⟩ := fn (by omega) (by omega)
            refine ⟨[-1], [(l - 1, dep + 1)], d4, .fz (.int l), .fz (.int dep), .fz (.int (dep + o)), s8, by simp, g1, g2, hD4, rfl, rfl, rfl, h8, ?_⟩
            conv => lhs; rw [mWhile_eq]
            by_cases q7 : dep + o = 0
            · have q4 : ¬ l < 4 := by omega
              simp -implicitDefEqProofs only [kR_r1, kR_r2, kR_r3d, intsD, mFor_ap, kForS_ap, addF_ii, addF_tt, addF_ll, addF_ss, mulF_ii, mulF_tt, mulF_ll, subF_ii, ltF_ii, leF_ii, gtF_ii, geF_ii, modF_ii, divF_ii, powF_ii, cutD_lo, cutD_hi, cutD_mid, cutD_m1, mYes_ap, truD, isi_set_int, isi_set_bool, isi_set_tuple, isi_set_list, isi_set_str, isi_set_dict, mLc_ap, allF_f, anyF_f, isi_non_int, isi_bl_int, isi_int_int, isi_str_int, isi_tup_int, isi_lst_int, isi_dK_int, isi_dT_int, isi_non_bool, isi_bl_bool, isi_int_bool, isi_str_bool, isi_tup_bool, isi_lst_bool, isi_dK_bool, isi_dT_bool, isi_non_tuple, isi_bl_tuple, isi_int_tuple, isi_str_tuple, isi_tup_tuple, isi_lst_tuple, isi_dK_tuple, isi_dT_tuple, isi_non_list, isi_bl_list, isi_int_list, isi_str_list, isi_tup_list, isi_lst_list, isi_dK_list, isi_dT_list, isi_non_str, isi_bl_str, isi_int_str, isi_str_str, isi_tup_str, isi_lst_str, isi_dK_str, isi_dT_str, isi_non_dict, isi_bl_dict, isi_int_dict, isi_str_dict, isi_tup_dict, isi_lst_dict, isi_dK_dict, isi_dT_dict, eqF_int, neF_int, eqF_bl, neF_bl, eqF_T, neF_T, eqF_Tm, neF_Tm, bndR_ok, bndR_none, bnd_ap, ret_ap, stuck_ap, mVar_ap, kVar_fz, kVar_ow, kVar_io, mC_ap, content_val, content_new, content_bor, slD_fz, slD_ow, slD_io, rv_f, rv_t, val_eq, new_eq, kRz_some, kRz_none, kP1_some, prim1_ap, kP2_some, prim2_ap, mBin_ap, kBin_ap, kBin2_ap, mUn_ap, kUn_ap, mTest_ap, kTest_ap, mTruth_ap, kTruth_ap, kTru_some, mNotT_ap, kNot_ap, mAndT_ap, mOrT_ap, kAnd_t, kAnd_f, kOr_t, kOr_f, mIf_ap, mIte_ap, kIf_t, kIf_f, mAndV_ap, mOrV_ap, kAndV_t, kAndV_f, kOrV_t, kOrV_f, mChain_ap, kCh1_ap, kCh2_ap, kCh3_ap, kLink_t, kLink_f, mChain3_ap, kC31_ap, kC32_ap, settle_val, settle_new, settle_bor, kSl_fz, kSl_ow, kOk_some, mD_ap, kD_ap, mCons_ap, kCons1_ap, kCons2_ap, mNil_ap, mStar_ap, kStar_ap, kStar1_some, kStar2_ap, mTup_ap, mLst_ap, kTup_ok, kLst_ok, mDict0_ap, mNoPart_ap, mPart_ap, kPart_ap, mSl_ap, kS1_ap, kS2_ap, kS3_ap, kS4_some, mRNil_ap, mRCons_ap, kR1_ap, kR2_ap, contents_nil, contents_cons, kCts_some, mCallB_ap, kCB_ap, kCB1_some, mArg_ap, kArg_f, kArg_val, kArg_new, kArg_bor, kArB_ow, kArB_io, mANil_ap, mACons_ap, kA1_ap, kA2_ap, mCall_ap, kCall_ap, kCall1_some, kFin_ok, owned_ow, owned_io, owned_fz, slsOf_nil, slsOf_pl, slsOf_tp, slsOf_ob, kOb_some, back_nil, back_pl, back_tp, back_ob, obs_nil, obs_pl, obs_tp, obs_ob, tps_nil, tps_pl, tps_tp, tps_ob, setOwn_ap, kSO_ow, kSO_io, mMut_ap, kMut0_some, kMut_some, mHas_ap, kHas_lst, mAppend_ap, kApp_ap, mPop_ap, mExtend_ap, kExt_ap, kExt1_some, appF_ok, extF_ok, popF_snoc, mSeq_ap, kSeq_nx, kSeq_rt, kSeq_bk, kSeq_ct, mSkip_ap, mBrk_ap, mCnt_ap, mExpr_ap, kDrop_ap, mRet_ap, kRet_val, kRet_new, kRet_bor, kRetB_fz, kRetB_ow, mRetN_ap, kNx_some, mSet_ap, kSet_ap, setSl_ap, kSS_no, kSS_fz, kSS_ow, kSS_pl, z1, z2, z3, z4, z5, z6, z7, z8, z9, z10, z11, z12, z13, z14, z15, z16, z17, z18, z19, z20, ixF_lst0, ixF_lst1, ixF_lst2, ixF_lst3, ixF_lstm, ixF_tup0, ixF_tup1, ixF_tup2, ixF_tup3, ixF_tupm, ixF_rol0, ixF_rol1, ixF_rol2, ixF_rol3, ixF_rolm, setF_0, setF_1, setF_2, setF_3, putRv_val, putRv_new, putRv_bor, noIo_no, noIo_fz, noIo_ow, mAsg_ap, kAsg_ap, gNm_ap, gTp_ap, gsNil_ap, gsCons_ap, mSt_ap, kSt_val, kSt_new, kSt_bor, mPNil_ap, mPCons_ap, kPC1_ap, mPar_ap, kPar_ap, putN_nil, putN_cons, mAug_ap, kAug_fz, kAug1_ap, mSetIx_ap, kIx_ap, kIx1_some, kIx2_ap, kIx3_some, kIx5_some, kIx4_some, setF_ok, mTurn_ap, kTurn_nx, kTurn_ct, kTurn_bk, kTurn_rt, kWh_t, kWh_f, forF_nil, kFor_some, semFn_ap, kFn_rt, kFn_nx, plain_fz, plain_io, mItems_ap, kIt_val, kIt_new, kIt_bor, kItB_fz, kItB_ow, kItB_io, kSrc_some, items_tup, items_lst, items_rol, mRng_ap, kRn_ap, kR_some, plainArg, val, new, negF, notF, lenF, absF, intF, boolF, max2F, min2F, tupleF, listF, fI, fI0, slF, isL, Rz.rv, eq_self, List.getElem?_cons_succ, List.getElem?_cons_zero, List.set_cons_succ, List.set_cons_zero, Option.map_some, Option.map_none, Option.bind_some, decide_true, decide_false, decide_not, Bool.not_true, Bool.not_false, Bool.true_and, Bool.and_true, Bool.false_and, Bool.and_false, Bool.true_or, Bool.or_true, Bool.false_or, Bool.or_false, List.nil_append, List.cons_append, List.append_nil, List.length_cons, List.length_nil, List.length_append, List.length_map, List.replicate_succ, List.replicate_zero, List.all_cons, List.all_nil, if_true, if_false, ite_true, ite_false, Nat.sub_self, Nat.reduceAdd, Nat.reduceSub, Nat.reduceLeDiff, Nat.reduceLT, List.take_succ_cons, List.take_zero, true_and, and_true, not_true, not_false_eq_true, and_self, List.nodup_nil, List.nodup_cons, List.mem_cons, List.not_mem_nil, or_false, false_or, List.map_cons, List.map_nil, List.map_append, Bool.decide_eq_true, Nat.zero_le, Bool.cond_true, Bool.cond_false, ↓reduceIte, reduceCtorEq, Int.reduceLT, Int.reduceLE, Int.reduceNeg, Int.reduceAdd, Int.reduceMul, Int.reduceSub, Int.reduceEq, Nat.reduceEqDiff, Nat.zero_add, id, c__law_term_drawn_1, w__law_term_drawn_1, neF_snoc, hc, pairD, n5, n6, n7, n8, q1, q2, q7, q4, q9, e4, q5, q6, e9, L, sf, sps]
            · simp -implicitDefEqProofs only [kR_r1, kR_r2, kR_r3d, intsD, mFor_ap, kForS_ap, addF_ii, addF_tt, addF_ll, addF_ss, mulF_ii, mulF_tt, mulF_ll, subF_ii, ltF_ii, leF_ii, gtF_ii, geF_ii, modF_ii, divF_ii, powF_ii, cutD_lo, cutD_hi, cutD_mid, cutD_m1, mYes_ap, truD, isi_set_int, isi_set_bool, isi_set_tuple, isi_set_list, isi_set_str, isi_set_dict, mLc_ap, allF_f, anyF_f, isi_non_int, isi_bl_int, isi_int_int, isi_str_int, isi_tup_int, isi_lst_int, isi_dK_int, isi_dT_int, isi_non_bool, isi_bl_bool, isi_int_bool, isi_str_bool, isi_tup_bool, isi_lst_bool, isi_dK_bool, isi_dT_bool, isi_non_tuple, isi_bl_tuple, isi_int_tuple, isi_str_tuple, isi_tup_tuple, isi_lst_tuple, isi_dK_tuple, isi_dT_tuple, isi_non_list, isi_bl_list, isi_int_list, isi_str_list, isi_tup_list, isi_lst_list, isi_dK_list, isi_dT_list, isi_non_str, isi_bl_str, isi_int_str, isi_str_str, isi_tup_str, isi_lst_str, isi_dK_str, isi_dT_str, isi_non_dict, isi_bl_dict, isi_int_dict, isi_str_dict, isi_tup_dict, isi_lst_dict, isi_dK_dict, isi_dT_dict, eqF_int, neF_int, eqF_bl, neF_bl, eqF_T, neF_T, eqF_Tm, neF_Tm, bndR_ok, bndR_none, bnd_ap, ret_ap, stuck_ap, mVar_ap, kVar_fz, kVar_ow, kVar_io, mC_ap, content_val, content_new, content_bor, slD_fz, slD_ow, slD_io, rv_f, rv_t, val_eq, new_eq, kRz_some, kRz_none, kP1_some, prim1_ap, kP2_some, prim2_ap, mBin_ap, kBin_ap, kBin2_ap, mUn_ap, kUn_ap, mTest_ap, kTest_ap, mTruth_ap, kTruth_ap, kTru_some, mNotT_ap, kNot_ap, mAndT_ap, mOrT_ap, kAnd_t, kAnd_f, kOr_t, kOr_f, mIf_ap, mIte_ap, kIf_t, kIf_f, mAndV_ap, mOrV_ap, kAndV_t, kAndV_f, kOrV_t, kOrV_f, mChain_ap, kCh1_ap, kCh2_ap, kCh3_ap, kLink_t, kLink_f, mChain3_ap, kC31_ap, kC32_ap, settle_val, settle_new, settle_bor, kSl_fz, kSl_ow, kOk_some, mD_ap, kD_ap, mCons_ap, kCons1_ap, kCons2_ap, mNil_ap, mStar_ap, kStar_ap, kStar1_some, kStar2_ap, mTup_ap, mLst_ap, kTup_ok, kLst_ok, mDict0_ap, mNoPart_ap, mPart_ap, kPart_ap, mSl_ap, kS1_ap, kS2_ap, kS3_ap, kS4_some, mRNil_ap, mRCons_ap, kR1_ap, kR2_ap, contents_nil, contents_cons, kCts_some, mCallB_ap, kCB_ap, kCB1_some, mArg_ap, kArg_f, kArg_val, kArg_new, kArg_bor, kArB_ow, kArB_io, mANil_ap, mACons_ap, kA1_ap, kA2_ap, mCall_ap, kCall_ap, kCall1_some, kFin_ok, owned_ow, owned_io, owned_fz, slsOf_nil, slsOf_pl, slsOf_tp, slsOf_ob, kOb_some, back_nil, back_pl, back_tp, back_ob, obs_nil, obs_pl, obs_tp, obs_ob, tps_nil, tps_pl, tps_tp, tps_ob, setOwn_ap, kSO_ow, kSO_io, mMut_ap, kMut0_some, kMut_some, mHas_ap, kHas_lst, mAppend_ap, kApp_ap, mPop_ap, mExtend_ap, kExt_ap, kExt1_some, appF_ok, extF_ok, popF_snoc, mSeq_ap, kSeq_nx, kSeq_rt, kSeq_bk, kSeq_ct, mSkip_ap, mBrk_ap, mCnt_ap, mExpr_ap, kDrop_ap, mRet_ap, kRet_val, kRet_new, kRet_bor, kRetB_fz, kRetB_ow, mRetN_ap, kNx_some, mSet_ap, kSet_ap, setSl_ap, kSS_no, kSS_fz, kSS_ow, kSS_pl, z1, z2, z3, z4, z5, z6, z7, z8, z9, z10, z11, z12, z13, z14, z15, z16, z17, z18, z19, z20, ixF_lst0, ixF_lst1, ixF_lst2, ixF_lst3, ixF_lstm, ixF_tup0, ixF_tup1, ixF_tup2, ixF_tup3, ixF_tupm, ixF_rol0, ixF_rol1, ixF_rol2, ixF_rol3, ixF_rolm, setF_0, setF_1, setF_2, setF_3, putRv_val, putRv_new, putRv_bor, noIo_no, noIo_fz, noIo_ow, mAsg_ap, kAsg_ap, gNm_ap, gTp_ap, gsNil_ap, gsCons_ap, mSt_ap, kSt_val, kSt_new, kSt_bor, mPNil_ap, mPCons_ap, kPC1_ap, mPar_ap, kPar_ap, putN_nil, putN_cons, mAug_ap, kAug_fz, kAug1_ap, mSetIx_ap, kIx_ap, kIx1_some, kIx2_ap, kIx3_some, kIx5_some, kIx4_some, setF_ok, mTurn_ap, kTurn_nx, kTurn_ct, kTurn_bk, kTurn_rt, kWh_t, kWh_f, forF_nil, kFor_some, semFn_ap, kFn_rt, kFn_nx, plain_fz, plain_io, mItems_ap, kIt_val, kIt_new, kIt_bor, kItB_fz, kItB_ow, kItB_io, kSrc_some, items_tup, items_lst, items_rol, mRng_ap, kRn_ap, kR_some, plainArg, val, new, negF, notF, lenF, absF, intF, boolF, max2F, min2F, tupleF, listF, fI, fI0, slF, isL, Rz.rv, eq_self, List.getElem?_cons_succ, List.getElem?_cons_zero, List.set_cons_succ, List.set_cons_zero, Option.map_some, Option.map_none, Option.bind_some, decide_true, decide_false, decide_not, Bool.not_true, Bool.not_false, Bool.true_and, Bool.and_true, Bool.false_and, Bool.and_false, Bool.true_or, Bool.or_true, Bool.false_or, Bool.or_false, List.nil_append, List.cons_append, List.append_nil, List.length_cons, List.length_nil, List.length_append, List.length_map, List.replicate_succ, List.replicate_zero, List.all_cons, List.all_nil, if_true, if_false, ite_true, ite_false, Nat.sub_self, Nat.reduceAdd, Nat.reduceSub, Nat.reduceLeDiff, Nat.reduceLT, List.take_succ_cons, List.take_zero, true_and, and_true, not_true, not_false_eq_true, and_self, List.nodup_nil, List.nodup_cons, List.mem_cons, List.not_mem_nil, or_false, false_or, List.map_cons, List.map_nil, List.map_append, Bool.decide_eq_true, Nat.zero_le, Bool.cond_true, Bool.cond_false, ↓reduceIte, reduceCtorEq, Int.reduceLT, Int.reduceLE, Int.reduceNeg, Int.reduceAdd, Int.reduceMul, Int.reduceSub, Int.reduceEq, Nat.reduceEqDiff, Nat.zero_add, id, c__law_term_drawn_1, w__law_term_drawn_1, neF_snoc, hc, pairD, n5, n6, n7, n8, q1, q2, q7, q9, e4, q5, q6, e9, L, sf, sps]
          · obtain ⟨ri, d1, hD1, a1, b1, e1⟩ := roll_ok hD4 (n := l - 2) (by omega) (by omega)
            have w1 : wt o (l - 1 - (1 + ri), dep) = if dep + o ≤ 0 then 2 * max (l - 1 - (1 + ri)).toNat 1 else max (l - 1 - (1 + ri)).toNat 1 := rfl
            have w2 : wt o (1 + ri, dep) = if dep + o ≤ 0 then 2 * max (1 + ri).toNat 1 else max (1 + ri).toNat 1 := rfl
            have w3 : 1 + (wt o (l - 1 - (1 + ri), dep) + wt o (1 + ri, dep)) ≤ wt o (l, dep) := by rw [w1, w2, wl]; split <;> omega
            have w5 := wt_pos o (l - 1 - (1 + ri), dep)
            have w4 : ([0] : List Int).length + wts o [(l - 1 - (1 + ri), dep), (1 + ri, dep)] ≤ wt o (l, dep) := by rw [wts_two]; simpa using w3
            have w6 := wt_pos o (1 + ri, dep)
            refine ⟨[0], [(l - 1 - (1 + ri), dep), (1 + ri, dep)], d1, .fz (.int l), .fz (.int dep), .fz (.int (dep + o)), .fz (.int (1 + ri)), by simp, hd.push _ (fun l' => rfl) (fun c hc => ?_) (fun q hq => ?_) w4, w4, hD1, rfl, rfl, rfl, rfl, ?_⟩
            · simp only [List.mem_cons, List.not_mem_nil, or_false] at hc; omega
            · simp only [List.mem_cons, List.not_mem_nil, or_false] at hq
              rcases hq with rfl | rfl <;> simp only <;> omega
            · conv => lhs; rw [mWhile_eq]
              by_cases q7 : dep + o = 0
              · have q4 : ¬ l < 4 := by omega
                simp -implicitDefEqProofs only [kR_r1, kR_r2, kR_r3d, intsD, mFor_ap, kForS_ap, addF_ii, addF_tt, addF_ll, addF_ss, mulF_ii, mulF_tt, mulF_ll, subF_ii, ltF_ii, leF_ii, gtF_ii, geF_ii, modF_ii, divF_ii, powF_ii, cutD_lo, cutD_hi, cutD_mid, cutD_m1, mYes_ap, truD, isi_set_int, isi_set_bool, isi_set_tuple, isi_set_list, isi_set_str, isi_set_dict, mLc_ap, allF_f, anyF_f, isi_non_int, isi_bl_int, isi_int_int, isi_str_int, isi_tup_int, isi_lst_int, isi_dK_int, isi_dT_int, isi_non_bool, isi_bl_bool, isi_int_bool, isi_str_bool, isi_tup_bool, isi_lst_bool, isi_dK_bool, isi_dT_bool, isi_non_tuple, isi_bl_tuple, isi_int_tuple, isi_str_tuple, isi_tup_tuple, isi_lst_tuple, isi_dK_tuple, isi_dT_tuple, isi_non_list, isi_bl_list, isi_int_list, isi_str_list, isi_tup_list, isi_lst_list, isi_dK_list, isi_dT_list, isi_non_str, isi_bl_str, isi_int_str, isi_str_str, isi_tup_str, isi_lst_str, isi_dK_str, isi_dT_str, isi_non_dict, isi_bl_dict, isi_int_dict, isi_str_dict, isi_tup_dict, isi_lst_dict, isi_dK_dict, isi_dT_dict, eqF_int, neF_int, eqF_bl, neF_bl, eqF_T, neF_T, eqF_Tm, neF_Tm, bndR_ok, bndR_none, bnd_ap, ret_ap, stuck_ap, mVar_ap, kVar_fz, kVar_ow, kVar_io, mC_ap, content_val, content_new, content_bor, slD_fz, slD_ow, slD_io, rv_f, rv_t, val_eq, new_eq, kRz_some, kRz_none, kP1_some, prim1_ap, kP2_some, prim2_ap, mBin_ap, kBin_ap, kBin2_ap, mUn_ap, kUn_ap, mTest_ap, kTest_ap, mTruth_ap, kTruth_ap, kTru_some, mNotT_ap, kNot_ap, mAndT_ap, mOrT_ap, kAnd_t, kAnd_f, kOr_t, kOr_f, mIf_ap, mIte_ap, kIf_t, kIf_f, mAndV_ap, mOrV_ap, kAndV_t, kAndV_f, kOrV_t, kOrV_f, mChain_ap, kCh1_ap, kCh2_ap, kCh3_ap, kLink_t, kLink_f, mChain3_ap, kC31_ap, kC32_ap, settle_val, settle_new, settle_bor, kSl_fz, kSl_ow, kOk_some, mD_ap, kD_ap, mCons_ap, kCons1_ap, kCons2_ap, mNil_ap, mStar_ap, kStar_ap, kStar1_some, kStar2_ap, mTup_ap, mLst_ap, kTup_ok, kLst_ok, mDict0_ap, mNoPart_ap, mPart_ap, kPart_ap, mSl_ap, kS1_ap, kS2_ap, kS3_ap, kS4_some, mRNil_ap, mRCons_ap, kR1_ap, kR2_ap, contents_nil, contents_cons, kCts_some, mCallB_ap, kCB_ap, kCB1_some, mArg_ap, kArg_f, kArg_val, kArg_new, kArg_bor, kArB_ow, kArB_io, mANil_ap, mACons_ap, kA1_ap, kA2_ap, mCall_ap, kCall_ap, kCall1_some, kFin_ok, owned_ow, owned_io, owned_fz, slsOf_nil, slsOf_pl, slsOf_tp, slsOf_ob, kOb_some, back_nil, back_pl, back_tp, back_ob, obs_nil, obs_pl, obs_tp, obs_ob, tps_nil, tps_pl, tps_tp, tps_ob, setOwn_ap, kSO_ow, kSO_io, mMut_ap, kMut0_some, kMut_some, mHas_ap, kHas_lst, mAppend_ap, kApp_ap, mPop_ap, mExtend_ap, kExt_ap, kExt1_some, appF_ok, extF_ok, popF_snoc, mSeq_ap, kSeq_nx, kSeq_rt, kSeq_bk, kSeq_ct, mSkip_ap, mBrk_ap, mCnt_ap, mExpr_ap, kDrop_ap, mRet_ap, kRet_val, kRet_new, kRet_bor, kRetB_fz, kRetB_ow, mRetN_ap, kNx_some, mSet_ap, kSet_ap, setSl_ap, kSS_no, kSS_fz, kSS_ow, kSS_pl, z1, z2, z3, z4, z5, z6, z7, z8, z9, z10, z11, z12, z13, z14, z15, z16, z17, z18, z19, z20, ixF_lst0, ixF_lst1, ixF_lst2, ixF_lst3, ixF_lstm, ixF_tup0, ixF_tup1, ixF_tup2, ixF_tup3, ixF_tupm, ixF_rol0, ixF_rol1, ixF_rol2, ixF_rol3, ixF_rolm, setF_0, setF_1, setF_2, setF_3, putRv_val, putRv_new, putRv_bor, noIo_no, noIo_fz, noIo_ow, mAsg_ap, kAsg_ap, gNm_ap, gTp_ap, gsNil_ap, gsCons_ap, mSt_ap, kSt_val, kSt_new, kSt_bor, mPNil_ap, mPCons_ap, kPC1_ap, mPar_ap, kPar_ap, putN_nil, putN_cons, mAug_ap, kAug_fz, kAug1_ap, mSetIx_ap, kIx_ap, kIx1_some, kIx2_ap, kIx3_some, kIx5_some, kIx4_some, setF_ok, mTurn_ap, kTurn_nx, kTurn_ct, kTurn_bk, kTurn_rt, kWh_t, kWh_f, forF_nil, kFor_some, semFn_ap, kFn_rt, kFn_nx, plain_fz, plain_io, mItems_ap, kIt_val, kIt_new, kIt_bor, kItB_fz, kItB_ow, kItB_io, kSrc_some, items_tup, items_lst, items_rol, mRng_ap, kRn_ap, kR_some, plainArg, val, new, negF, notF, lenF, absF, intF, boolF, max2F, min2F, tupleF, listF, fI, fI0, slF, isL, Rz.rv, eq_self, List.getElem?_cons_succ, List.getElem?_cons_zero, List.set_cons_succ, List.set_cons_zero, Option.map_some, Option.map_none, Option.bind_some, decide_true, decide_false, decide_not, Bool.not_true, Bool.not_false, Bool.true_and, Bool.and_true, Bool.false_and, Bool.and_false, Bool.true_or, Bool.or_true, Bool.false_or, Bool.or_false, List.nil_append, List.cons_append, List.append_nil, List.length_cons, List.length_nil, List.length_append, List.length_map, List.replicate_succ, List.replicate_zero, List.all_cons, List.all_nil, if_true, if_false, ite_true, ite_false, Nat.sub_self, Nat.reduceAdd, Nat.reduceSub, Nat.reduceLeDiff, Nat.reduceLT, List.take_succ_cons, List.take_zero, true_and, and_true, not_true, not_false_eq_true, and_self, List.nodup_nil, List.nodup_cons, List.mem_cons, List.not_mem_nil, or_false, false_or, List.map_cons, List.map_nil, List.map_append, Bool.decide_eq_true, Nat.zero_le, Bool.cond_true, Bool.cond_false, ↓reduceIte, reduceCtorEq, Int.reduceLT, Int.reduceLE, Int.reduceNeg, Int.reduceAdd, Int.reduceMul, Int.reduceSub, Int.reduceEq, Nat.reduceEqDiff, Nat.zero_add, id, c__law_term_drawn_1, w__law_term_drawn_1, neF_snoc, hc, pairD, n5, n6, n7, n8, q1, q2, q7, q4, q9, e4, e1, q5, q6, e9, L, sf, sps2]
              · simp -implicitDefEqProofs only [kR_r1, kR_r2, kR_r3d, intsD, mFor_ap, kForS_ap, addF_ii, addF_tt, addF_ll, addF_ss, mulF_ii, mulF_tt, mulF_ll, subF_ii, ltF_ii, leF_ii, gtF_ii, geF_ii, modF_ii, divF_ii, powF_ii, cutD_lo, cutD_hi, cutD_mid, cutD_m1, mYes_ap, truD, isi_set_int, isi_set_bool, isi_set_tuple, isi_set_list, isi_set_str, isi_set_dict, mLc_ap, allF_f, anyF_f, isi_non_int, isi_bl_int, isi_int_int, isi_str_int, isi_tup_int, isi_lst_int, isi_dK_int, isi_dT_int, isi_non_bool, isi_bl_bool, isi_int_bool, isi_str_bool, isi_tup_bool, isi_lst_bool, isi_dK_bool, isi_dT_bool, isi_non_tuple, isi_bl_tuple, isi_int_tuple, isi_str_tuple, isi_tup_tuple, isi_lst_tuple, isi_dK_tuple, isi_dT_tuple, isi_non_list, isi_bl_list, isi_int_list, isi_str_list, isi_tup_list, isi_lst_list, isi_dK_list, isi_dT_list, isi_non_str, isi_bl_str, isi_int_str, isi_str_str, isi_tup_str, isi_lst_str, isi_dK_str, isi_dT_str, isi_non_dict, isi_bl_dict, isi_int_dict, isi_str_dict, isi_tup_dict, isi_lst_dict, isi_dK_dict, isi_dT_dict, eqF_int, neF_int, eqF_bl, neF_bl, eqF_T, neF_T, eqF_Tm, neF_Tm, bndR_ok, bndR_none, bnd_ap, ret_ap, stuck_ap, mVar_ap, kVar_fz, kVar_ow, kVar_io, mC_ap, content_val, content_new, content_bor, slD_fz, slD_ow, slD_io, rv_f, rv_t, val_eq, new_eq, kRz_some, kRz_none, kP1_some, prim1_ap, kP2_some, prim2_ap, mBin_ap, kBin_ap, kBin2_ap, mUn_ap, kUn_ap, mTest_ap, kTest_ap, mTruth_ap, kTruth_ap, kTru_some, mNotT_ap, kNot_ap, mAndT_ap, mOrT_ap, kAnd_t, kAnd_f, kOr_t, kOr_f, mIf_ap, mIte_ap, kIf_t, kIf_f, mAndV_ap, mOrV_ap, kAndV_t, kAndV_f, kOrV_t, kOrV_f, mChain_ap, kCh1_ap, kCh2_ap, kCh3_ap, kLink_t, kLink_f, mChain3_ap, kC31_ap, kC32_ap, settle_val, settle_new, settle_bor, kSl_fz, kSl_ow, kOk_some, mD_ap, kD_ap, mCons_ap, kCons1_ap, kCons2_ap, mNil_ap, mStar_ap, kStar_ap, kStar1_some, kStar2_ap, mTup_ap, mLst_ap, kTup_ok, kLst_ok, mDict0_ap, mNoPart_ap, mPart_ap, kPart_ap, mSl_ap, kS1_ap, kS2_ap, kS3_ap, kS4_some, mRNil_ap, mRCons_ap, kR1_ap, kR2_ap, contents_nil, contents_cons, kCts_some, mCallB_ap, kCB_ap, kCB1_some, mArg_ap, kArg_f, kArg_val, kArg_new, kArg_bor, kArB_ow, kArB_io, mANil_ap, mACons_ap, kA1_ap, kA2_ap, mCall_ap, kCall_ap, kCall1_some, kFin_ok, owned_ow, owned_io, owned_fz, slsOf_nil, slsOf_pl, slsOf_tp, slsOf_ob, kOb_some, back_nil, back_pl, back_tp, back_ob, obs_nil, obs_pl, obs_tp, obs_ob, tps_nil, tps_pl, tps_tp, tps_ob, setOwn_ap, kSO_ow, kSO_io, mMut_ap, kMut0_some, kMut_some, mHas_ap, kHas_lst, mAppend_ap, kApp_ap, mPop_ap, mExtend_ap, kExt_ap, kExt1_some, appF_ok, extF_ok, popF_snoc, mSeq_ap, kSeq_nx, kSeq_rt, kSeq_bk, kSeq_ct, mSkip_ap, mBrk_ap, mCnt_ap, mExpr_ap, kDrop_ap, mRet_ap, kRet_val, kRet_new, kRet_bor, kRetB_fz, kRetB_ow, mRetN_ap, kNx_some, mSet_ap, kSet_ap, setSl_ap, kSS_no, kSS_fz, kSS_ow, kSS_pl, z1, z2, z3, z4, z5, z6, z7, z8, z9, z10, z11, z12, z13, z14, z15, z16, z17, z18, z19, z20, ixF_lst0, ixF_lst1, ixF_lst2, ixF_lst3, ixF_lstm, ixF_tup0, ixF_tup1, ixF_tup2, ixF_tup3, ixF_tupm, ixF_rol0, ixF_rol1, ixF_rol2, ixF_rol3, ixF_rolm, setF_0, setF_1, setF_2, setF_3, putRv_val, putRv_new, putRv_bor, noIo_no, noIo_fz, noIo_ow, mAsg_ap, kAsg_ap, gNm_ap, gTp_ap, gsNil_ap, gsCons_ap, mSt_ap, kSt_val, kSt_new, kSt_bor, mPNil_ap, mPCons_ap, kPC1_ap, mPar_ap, kPar_ap, putN_nil, putN_cons, mAug_ap, kAug_fz, kAug1_ap, mSetIx_ap, kIx_ap, kIx1_some, kIx2_ap, kIx3_some, kIx5_some, kIx4_some, setF_ok, mTurn_ap, kTurn_nx, kTurn_ct, kTurn_bk, kTurn_rt, kWh_t, kWh_f, forF_nil, kFor_some, semFn_ap, kFn_rt, kFn_nx, plain_fz, plain_io, mItems_ap, kIt_val, kIt_new, kIt_bor, kItB_fz, kItB_ow, kItB_io, kSrc_some, items_tup, items_lst, items_rol, mRng_ap, kRn_ap, kR_some, plainArg, val, new, negF, notF, lenF, absF, intF, boolF, max2F, min2F, tupleF, listF, fI, fI0, slF, isL, Rz.rv, eq_self, List.getElem?_cons_succ, List.getElem?_cons_zero, List.set_cons_succ, List.set_cons_zero, Option.map_some, Option.map_none, Option.bind_some, decide_true, decide_false, decide_not, Bool.not_true, Bool.not_false, Bool.true_and, Bool.and_true, Bool.false_and, Bool.and_false, Bool.true_or, Bool.or_true, Bool.false_or, Bool.or_false, List.nil_append, List.cons_append, List.append_nil, List.length_cons, List.length_nil, List.length_append, List.length_map, List.replicate_succ, List.replicate_zero, List.all_cons, List.all_nil, if_true, if_false, ite_true, ite_false, Nat.sub_self, Nat.reduceAdd, Nat.reduceSub, Nat.reduceLeDiff, Nat.reduceLT, List.take_succ_cons, List.take_zero, true_and, and_true, not_true, not_false_eq_true, and_self, List.nodup_nil, List.nodup_cons, List.mem_cons, List.not_mem_nil, or_false, false_or, List.map_cons, List.map_nil, List.map_append, Bool.decide_eq_true, Nat.zero_le, Bool.cond_true, Bool.cond_false, ↓reduceIte, reduceCtorEq, Int.reduceLT, Int.reduceLE, Int.reduceNeg, Int.reduceAdd, Int.reduceMul, Int.reduceSub, Int.reduceEq, Nat.reduceEqDiff, Nat.zero_add, id, c__law_term_drawn_1, w__law_term_drawn_1, neF_snoc, hc, pairD, n5, n6, n7, n8, q1, q2, q7, q9, e4, e1, q5, q6, e9, L, sf, sps2]
        · have q6 : l < 4 := by omega
          obtain ⟨r4, d4, hD4, a4, b4, e4⟩ := roll_ok hD (n := 4) (by omega) (by omega)
          by_cases q9 : r4 = 0
          · obtain ⟨g1, g2⟩ := fn (by omega) (by omega)
            refine ⟨[-1], [(l - 1, dep + 1)], d4, .fz (.int l), .fz (.int dep), .fz (.int (dep + o)), s8, by simp, g1, g2, hD4, rfl, rfl, rfl, h8, ?_⟩
            conv => lhs; rw [mWhile_eq]
            by_cases q7 : dep + o = 0
            · have q4 : ¬ l < 4 := by omega
              simp -implicitDefEqProofs only [kR_r1, kR_r2, kR_r3d, intsD, mFor_ap, kForS_ap, addF_ii, addF_tt, addF_ll, addF_ss, mulF_ii, mulF_tt, mulF_ll, subF_ii, ltF_ii, leF_ii, gtF_ii, geF_ii, modF_ii, divF_ii, powF_ii, cutD_lo, cutD_hi, cutD_mid, cutD_m1, mYes_ap, truD, isi_set_int, isi_set_bool, isi_set_tuple, isi_set_list, isi_set_str, isi_set_dict, mLc_ap, allF_f, anyF_f, isi_non_int, isi_bl_int, isi_int_int, isi_str_int, isi_tup_int, isi_lst_int, isi_dK_int, isi_dT_int, isi_non_bool, isi_bl_bool, isi_int_bool, isi_str_bool, isi_tup_bool, isi_lst_bool, isi_dK_bool, isi_dT_bool, isi_non_tuple, isi_bl_tuple, isi_int_tuple, isi_str_tuple, isi_tup_tuple, isi_lst_tuple, isi_dK_tuple, isi_dT_tuple, isi_non_list, isi_bl_list, isi_int_list, isi_str_list, isi_tup_list, isi_lst_list, isi_dK_list, isi_dT_list, isi_non_str, isi_bl_str, isi_int_str, isi_str_str, isi_tup_str, isi_lst_str, isi_dK_str, isi_dT_str, isi_non_dict, isi_bl_dict, isi_int_dict, isi_str_dict, isi_tup_dict, isi_lst_dict, isi_dK_dict, isi_dT_dict, eqF_int, neF_int, eqF_bl, neF_bl, eqF_T, neF_T, eqF_Tm, neF_Tm, bndR_ok, bndR_none, bnd_ap, ret_ap, stuck_ap, mVar_ap, kVar_fz, kVar_ow, kVar_io, mC_ap, content_val, content_new, content_bor, slD_fz, slD_ow, slD_io, rv_f, rv_t, val_eq, new_eq, kRz_some, kRz_none, kP1_some, prim1_ap, kP2_some, prim2_ap, mBin_ap, kBin_ap, kBin2_ap, mUn_ap, kUn_ap, mTest_ap, kTest_ap, mTruth_ap, kTruth_ap, kTru_some, mNotT_ap, kNot_ap, mAndT_ap, mOrT_ap, kAnd_t, kAnd_f, kOr_t, kOr_f, mIf_ap, mIte_ap, kIf_t, kIf_f, mAndV_ap, mOrV_ap, kAndV_t, kAndV_f, kOrV_t, kOrV_f, mChain_ap, kCh1_ap, kCh2_ap, kCh3_ap, kLink_t, kLink_f, mChain3_ap, kC31_ap, kC32_ap, settle_val, settle_new, settle_bor, kSl_fz, kSl_ow, kOk_some, mD_ap, kD_ap, mCons_ap, kCons1_ap, kCons2_ap, mNil_ap, mStar_ap, kStar_ap, kStar1_some, kStar2_ap, mTup_ap, mLst_ap, kTup_ok, kLst_ok, mDict0_ap, mNoPart_ap, mPart_ap, kPart_ap, mSl_ap, kS1_ap, kS2_ap, kS3_ap, kS4_some, mRNil_ap, mRCons_ap, kR1_ap, kR2_ap, contents_nil, contents_cons, kCts_some, mCallB_ap, kCB_ap, kCB1_some, mArg_ap, kArg_f, kArg_val, kArg_new, kArg_bor, kArB_ow, kArB_io, mANil_ap, mACons_ap, kA1_ap, kA2_ap, mCall_ap, kCall_ap, kCall1_some, kFin_ok, owned_ow, owned_io, owned_fz, slsOf_nil, slsOf_pl, slsOf_tp, slsOf_ob, kOb_some, back_nil, back_pl, back_tp, back_ob, obs_nil, obs_pl, obs_tp, obs_ob, tps_nil, tps_pl, tps_tp, tps_ob, setOwn_ap, kSO_ow, kSO_io, mMut_ap, kMut0_some, kMut_some, mHas_ap, kHas_lst, mAppend_ap, kApp_ap, mPop_ap, mExtend_ap, kExt_ap, kExt1_some, appF_ok, extF_ok, popF_snoc, mSeq_ap, kSeq_nx, kSeq_rt, kSeq_bk, kSeq_ct, mSkip_ap, mBrk_ap, mCnt_ap, mExpr_ap, kDrop_ap, mRet_ap, kRet_val, kRet_new, kRet_bor, kRetB_fz, kRetB_ow, mRetN_ap, kNx_some, mSet_ap, kSet_ap, setSl_ap, kSS_no, kSS_fz, kSS_ow, kSS_pl, z1, z2, z3, z4, z5, z6, z7, z8, z9, z10, z11, z12, z13, z14, z15, z16, z17, z18, z19, z20, ixF_lst0, ixF_lst1, ixF_lst2, ixF_lst3, ixF_lstm, ixF_tup0, ixF_tup1, ixF_tup2, ixF_tup3, ixF_tupm, ixF_rol0, ixF_rol1, ixF_rol2, ixF_rol3, ixF_rolm, setF_0, setF_1, setF_2, setF_3, putRv_val, putRv_new, putRv_bor, noIo_no, noIo_fz, noIo_ow, mAsg_ap, kAsg_ap, gNm_ap, gTp_ap, gsNil_ap, gsCons_ap, mSt_ap, kSt_val, kSt_new, kSt_bor, mPNil_ap, mPCons_ap, kPC1_ap, mPar_ap, kPar_ap, putN_nil, putN_cons, mAug_ap, kAug_fz, kAug1_ap, mSetIx_ap, kIx_ap, kIx1_some, kIx2_ap, kIx3_some, kIx5_some, kIx4_some, setF_ok, mTurn_ap, kTurn_nx, kTurn_ct, kTurn_bk, kTurn_rt, kWh_t, kWh_f, forF_nil, kFor_some, semFn_ap, kFn_rt, kFn_nx, plain_fz, plain_io, mItems_ap, kIt_val, kIt_new, kIt_bor, kItB_fz, kItB_ow, kItB_io, kSrc_some, items_tup, items_lst, items_rol, mRng_ap, kRn_ap, kR_some, plainArg, val, new, negF, notF, lenF, absF, intF, boolF, max2F, min2F, tupleF, listF, fI, fI0, slF, isL, Rz.rv, eq_self, List.getElem?_cons_succ, List.getElem?_cons_zero, List.set_cons_succ, List.set_cons_zero, Option.map_some, Option.map_none, Option.bind_some, decide_true, decide_false, decide_not, Bool.not_true, Bool.not_false, Bool.true_and, Bool.and_true, Bool.false_and, Bool.and_false, Bool.true_or, Bool.or_true, Bool.false_or, Bool.or_false, List.nil_append, List.cons_append, List.append_nil, List.length_cons, List.length_nil, List.length_append, List.length_map, List.replicate_succ, List.replicate_zero, List.all_cons, List.all_nil, if_true, if_false, ite_true, ite_false, Nat.sub_self, Nat.reduceAdd, Nat.reduceSub, Nat.reduceLeDiff, Nat.reduceLT, List.take_succ_cons, List.take_zero, true_and, and_true, not_true, not_false_eq_true, and_self, List.nodup_nil, List.nodup_cons, List.mem_cons, List.not_mem_nil, or_false, false_or, List.map_cons, List.map_nil, List.map_append, Bool.decide_eq_true, Nat.zero_le, Bool.cond_true, Bool.cond_false, ↓reduceIte, reduceCtorEq, Int.reduceLT, Int.reduceLE, Int.reduceNeg, Int.reduceAdd, Int.reduceMul, Int.reduceSub, Int.reduceEq, Nat.reduceEqDiff, Nat.zero_add, id, c__law_term_drawn_1, w__law_term_drawn_1, neF_snoc, hc, pairD, n5, n6, n7, n8, q1, q2, q7, q4, q9, e4, q5, q6, L, sf, sps]
            · simp -implicitDefEqProofs only [kR_r1, kR_r2, kR_r3d, intsD, mFor_ap, kForS_ap, addF_ii, addF_tt, addF_ll, addF_ss, mulF_ii, mulF_tt, mulF_ll, subF_ii, ltF_ii, leF_ii, gtF_ii, geF_ii, modF_ii, divF_ii, powF_ii, cutD_lo, cutD_hi, cutD_mid, cutD_m1, mYes_ap, truD, isi_set_int, isi_set_bool, isi_set_tuple, isi_set_list, isi_set_str, isi_set_dict, mLc_ap, allF_f, anyF_f, isi_non_int, isi_bl_int, isi_int_int, isi_str_int, isi_tup_int, isi_lst_int, isi_dK_int, isi_dT_int, isi_non_bool, isi_bl_bool, isi_int_bool, isi_str_bool, isi_tup_bool, isi_lst_bool, isi_dK_bool, isi_dT_bool, isi_non_tuple, isi_bl_tuple, isi_int_tuple, isi_str_tuple, isi_tup_tuple, isi_lst_tuple, isi_dK_tuple, isi_dT_tuple, isi_non_list, isi_bl_list, isi_int_list, isi_str_list, isi_tup_list, isi_lst_list, isi_dK_list, isi_dT_list, isi_non_str, isi_bl_str, isi_int_str, isi_str_str, isi_tup_str, isi_lst_str, isi_dK_str, isi_dT_str, isi_non_dict, isi_bl_dict, isi_int_dict, isi_str_dict, isi_tup_dict, isi_lst_dict, isi_dK_dict, isi_dT_dict, eqF_int, neF_int, eqF_bl, neF_bl, eqF_T, neF_T, eqF_Tm, neF_Tm, bndR_ok, bndR_none, bnd_ap, ret_ap, stuck_ap, mVar_ap, kVar_fz, kVar_ow, kVar_io, mC_ap, content_val, content_new, content_bor, slD_fz, slD_ow, slD_io, rv_f, rv_t, val_eq, new_eq, kRz_some, kRz_none, kP1_some, prim1_ap, kP2_some, prim2_ap, mBin_ap, kBin_ap, kBin2_ap, mUn_ap, kUn_ap, mTest_ap, kTest_ap, mTruth_ap, kTruth_ap, kTru_some, mNotT_ap, kNot_ap, mAndT_ap, mOrT_ap, kAnd_t, kAnd_f, kOr_t, kOr_f, mIf_ap, mIte_ap, kIf_t, kIf_f, mAndV_ap, mOrV_ap, kAndV_t, kAndV_f, kOrV_t, kOrV_f, mChain_ap, kCh1_ap, kCh2_ap, kCh3_ap, kLink_t, kLink_f, mChain3_ap, kC31_ap, kC32_ap, settle_val, settle_new, settle_bor, kSl_fz, kSl_ow, kOk_some, mD_ap, kD_ap, mCons_ap, kCons1_ap, kCons2_ap, mNil_ap, mStar_ap, kStar_ap, kStar1_some, kStar2_ap, mTup_ap, mLst_ap, kTup_ok, kLst_ok, mDict0_ap, mNoPart_ap, mPart_ap, kPart_ap, mSl_ap, kS1_ap, kS2_ap, kS3_ap, kS4_some, mRNil_ap, mRCons_ap, kR1_ap, kR2_ap, contents_nil, contents_cons, kCts_some, mCallB_ap, kCB_ap, kCB1_some, mArg_ap, kArg_f, kArg_val, kArg_new, kArg_bor, kArB_ow, kArB_io, mANil_ap, mACons_ap, kA1_ap, kA2_ap, mCall_ap, kCall_ap, kCall1_some, kFin_ok, owned_ow, owned_io, owned_fz, slsOf_nil, slsOf_pl, slsOf_tp, slsOf_ob, kOb_some, back_nil, back_pl, back_tp, back_ob, obs_nil, obs_pl, obs_tp, obs_ob, tps_nil, tps_pl, tps_tp, tps_ob, setOwn_ap, kSO_ow, kSO_io, mMut_ap, kMut0_some, kMut_some, mHas_ap, kHas_lst, mAppend_ap, kApp_ap, mPop_ap, mExtend_ap, kExt_ap, kExt1_some, appF_ok, extF_ok, popF_snoc, mSeq_ap, kSeq_nx, kSeq_rt, kSeq_bk, kSeq_ct, mSkip_ap, mBrk_ap, mCnt_ap, mExpr_ap, kDrop_ap, mRet_ap, kRet_val, kRet_new, kRet_bor, kRetB_fz, kRetB_ow, mRetN_ap, kNx_some, mSet_ap, kSet_ap, setSl_ap, kSS_no, kSS_fz, kSS_ow, kSS_pl, z1, z2, z3, z4, z5, z6, z7, z8, z9, z10, z11, z12, z13, z14, z15, z16, z17, z18, z19, z20, ixF_lst0, ixF_lst1, ixF_lst2, ixF_lst3, ixF_lstm, ixF_tup0, ixF_tup1, ixF_tup2, ixF_tup3, ixF_tupm, ixF_rol0, ixF_rol1, ixF_rol2, ixF_rol3, ixF_rolm, setF_0, setF_1, setF_2, setF_3, putRv_val, putRv_new, putRv_bor, noIo_no, noIo_fz, noIo_ow, mAsg_ap, kAsg_ap, gNm_ap, gTp_ap, gsNil_ap, gsCons_ap, mSt_ap, kSt_val, kSt_new, kSt_bor, mPNil_ap, mPCons_ap, kPC1_ap, mPar_ap, kPar_ap, putN_nil, putN_cons, mAug_ap, kAug_fz, kAug1_ap, mSetIx_ap, kIx_ap, kIx1_some, kIx2_ap, kIx3_some, kIx5_some, kIx4_some, setF_ok, mTurn_ap, kTurn_nx, kTurn_ct, kTurn_bk, kTurn_rt, kWh_t, kWh_f, forF_nil, kFor_some, semFn_ap, kFn_rt, kFn_nx, plain_fz, plain_io, mItems_ap, kIt_val, kIt_new, kIt_bor, kItB_fz, kItB_ow, kItB_io, kSrc_some, items_tup, items_lst, items_rol, mRng_ap, kRn_ap, kR_some, plainArg, val, new, negF, notF, lenF, absF, intF, boolF, max2F, min2F, tupleF, listF, fI, fI0, slF, isL, Rz.rv, eq_self, List.getElem?_cons_succ, List.getElem?_cons_zero, List.set_cons_succ, List.set_cons_zero, Option.map_some, Option.map_none, Option.bind_some, decide_true, decide_false, decide_not, Bool.not_true, Bool.not_false, Bool.true_and, Bool.and_true, Bool.false_and, Bool.and_false, Bool.true_or, Bool.or_true, Bool.false_or, Bool.or_false, List.nil_append, List.cons_append, List.append_nil, List.length_cons, List.length_nil, List.length_append, List.length_map, List.replicate_succ, List.replicate_zero, List.all_cons, List.all_nil, if_true, if_false, ite_true, ite_false, Nat.sub_self, Nat.reduceAdd, Nat.reduceSub, Nat.reduceLeDiff, Nat.reduceLT, List.take_succ_cons, List.take_zero, true_and, and_true, not_true, not_false_eq_true, and_self, List.nodup_nil, List.nodup_cons, List.mem_cons, List.not_mem_nil, or_false, false_or, List.map_cons, List.map_nil, List.map_append, Bool.decide_eq_true, Nat.zero_le, Bool.cond_true, Bool.cond_false, ↓reduceIte, reduceCtorEq, Int.reduceLT, Int.reduceLE, Int.reduceNeg, Int.reduceAdd, Int.reduceMul, Int.reduceSub, Int.reduceEq, Nat.reduceEqDiff, Nat.zero_add, id, c__law_term_drawn_1, w__law_term_drawn_1, neF_snoc, hc, pairD, n5, n6, n7, n8, q1, q2, q7, q9, e4, q5, q6, L, sf, sps]
          · obtain ⟨ri, d1, hD1, a1, b1, e1⟩ := roll_ok hD4 (n := l - 2) (by omega) (by omega)
            have w1 : wt o (l - 1 - (1 + ri), dep) = if dep + o ≤ 0 then 2 * max (l - 1 - (1 + ri)).toNat 1 else max (l - 1 - (1 + ri)).toNat 1 := rfl
            have w2 : wt o (1 + ri, dep) = if dep + o ≤ 0 then 2 * max (1 + ri).toNat 1 else max (1 + ri).toNat 1 := rfl
            have w3 : 1 + (wt o (l - 1 - (1 + ri), dep) + wt o (1 + ri, dep)) ≤ wt o (l, dep) := by rw [w1, w2, wl]; split <;> omega
            have w5 := wt_pos o (l - 1 - (1 + ri), dep)
            have w4 : ([0] : List Int).length + wts o [(l - 1 - (1 + ri), dep), (1 + ri, dep)] ≤ wt o (l, dep) := by rw [wts_two]; simpa using w3
            have w6 := wt_pos o (1 + ri, dep)
            refine ⟨[0], [(l - 1 - (1 + ri), dep), (1 + ri, dep)], d1, .fz (.int l), .fz (.int dep), .fz (.int (dep + o)), .fz (.int (1 + ri)), by simp, hd.push _ (fun l' => rfl) (fun c hc => ?_) (fun q hq => ?_) w4, w4, hD1, rfl, rfl, rfl, rfl, ?_⟩
            · simp only [List.mem_cons, List.not_mem_nil, or_false] at hc; omega
            · simp only [List.mem_cons, List.not_mem_nil, or_false] at hq
              rcases hq with rfl | rfl <;> simp only <;> omega
            · conv => lhs; rw [mWhile_eq]
              by_cases q7 : dep + o = 0
              · have q4 : ¬ l < 4 := by omega
                simp -implicitDefEqProofs only [kR_r1, kR_r2, kR_r3d, intsD, mFor_ap, kForS_ap, addF_ii, addF_tt, addF_ll, addF_ss, mulF_ii, mulF_tt, mulF_ll, subF_ii, ltF_ii, leF_ii, gtF_ii, geF_ii, modF_ii, divF_ii, powF_ii, cutD_lo, cutD_hi, cutD_mid, cutD_m1, mYes_ap, truD, isi_set_int, isi_set_bool, isi_set_tuple, isi_set_list, isi_set_str, isi_set_dict, mLc_ap, allF_f, anyF_f, isi_non_int, isi_bl_int, isi_int_int, isi_str_int, isi_tup_int, isi_lst_int, isi_dK_int, isi_dT_int, isi_non_bool, isi_bl_bool, isi_int_bool, isi_str_bool, isi_tup_bool, isi_lst_bool, isi_dK_bool, isi_dT_bool, isi_non_tuple, isi_bl_tuple, isi_int_tuple, isi_str_tuple, isi_tup_tuple, isi_lst_tuple, isi_dK_tuple, isi_dT_tuple, isi_non_list, isi_bl_list, isi_int_list, isi_str_list, isi_tup_list, isi_lst_list, isi_dK_list, isi_dT_list, isi_non_str, isi_bl_str, isi_int_str, isi_str_str, isi_tup_str, isi_lst_str, isi_dK_str, isi_dT_str, isi_non_dict, isi_bl_dict, isi_int_dict, isi_str_dict, isi_tup_dict, isi_lst_dict, isi_dK_dict, isi_dT_dict, eqF_int, neF_int, eqF_bl, neF_bl, eqF_T, neF_T, eqF_Tm, neF_Tm, bndR_ok, bndR_none, bnd_ap, ret_ap, stuck_ap, mVar_ap, kVar_fz, kVar_ow, kVar_io, mC_ap, content_val, content_new, content_bor, slD_fz, slD_ow, slD_io, rv_f, rv_t, val_eq, new_eq, kRz_some, kRz_none, kP1_some, prim1_ap, kP2_some, prim2_ap, mBin_ap, kBin_ap, kBin2_ap, mUn_ap, kUn_ap, mTest_ap, kTest_ap, mTruth_ap, kTruth_ap, kTru_some, mNotT_ap, kNot_ap, mAndT_ap, mOrT_ap, kAnd_t, kAnd_f, kOr_t, kOr_f, mIf_ap, mIte_ap, kIf_t, kIf_f, mAndV_ap, mOrV_ap, kAndV_t, kAndV_f, kOrV_t, kOrV_f, mChain_ap, kCh1_ap, kCh2_ap, kCh3_ap, kLink_t, kLink_f, mChain3_ap, kC31_ap, kC32_ap, settle_val, settle_new, settle_bor, kSl_fz, kSl_ow, kOk_some, mD_ap, kD_ap, mCons_ap, kCons1_ap, kCons2_ap, mNil_ap, mStar_ap, kStar_ap, kStar1_some, kStar2_ap, mTup_ap, mLst_ap, kTup_ok, kLst_ok, mDict0_ap, mNoPart_ap, mPart_ap, kPart_ap, mSl_ap, kS1_ap, kS2_ap, kS3_ap, kS4_some, mRNil_ap, mRCons_ap, kR1_ap, kR2_ap, contents_nil, contents_cons, kCts_some, mCallB_ap, kCB_ap, kCB1_some, mArg_ap, kArg_f, kArg_val, kArg_new, kArg_bor, kArB_ow, kArB_io, mANil_ap, mACons_ap, kA1_ap, kA2_ap, mCall_ap, kCall_ap, kCall1_some, kFin_ok, owned_ow, owned_io, owned_fz, slsOf_nil, slsOf_pl, slsOf_tp, slsOf_ob, kOb_some, back_nil, back_pl, back_tp, back_ob, obs_nil, obs_pl, obs_tp, obs_ob, tps_nil, tps_pl, tps_tp, tps_ob, setOwn_ap, kSO_ow, kSO_io, mMut_ap, kMut0_some, kMut_some, mHas_ap, kHas_lst, mAppend_ap, kApp_ap, mPop_ap, mExtend_ap, kExt_ap, kExt1_some, appF_ok, extF_ok, popF_snoc, mSeq_ap, kSeq_nx, kSeq_rt, kSeq_bk, kSeq_ct, mSkip_ap, mBrk_ap, mCnt_ap, mExpr_ap, kDrop_ap, mRet_ap, kRet_val, kRet_new, kRet_bor, kRetB_fz, kRetB_ow, mRetN_ap, kNx_some, mSet_ap, kSet_ap, setSl_ap, kSS_no, kSS_fz, kSS_ow, kSS_pl, z1, z2, z3, z4, z5, z6, z7, z8, z9, z10, z11, z12, z13, z14, z15, z16, z17, z18, z19, z20, ixF_lst0, ixF_lst1, ixF_lst2, ixF_lst3, ixF_lstm, ixF_tup0, ixF_tup1, ixF_tup2, ixF_tup3, ixF_tupm, ixF_rol0, ixF_rol1, ixF_rol2, ixF_rol3, ixF_rolm, setF_0, setF_1, setF_2, setF_3, putRv_val, putRv_new, putRv_bor, noIo_no, noIo_fz, noIo_ow, mAsg_ap, kAsg_ap, gNm_ap, gTp_ap, gsNil_ap, gsCons_ap, mSt_ap, kSt_val, kSt_new, kSt_bor, mPNil_ap, mPCons_ap, kPC1_ap, mPar_ap, kPar_ap, putN_nil, putN_cons, mAug_ap, kAug_fz, kAug1_ap, mSetIx_ap, kIx_ap, kIx1_some, kIx2_ap, kIx3_some, kIx5_some, kIx4_some, setF_ok, mTurn_ap, kTurn_nx, kTurn_ct, kTurn_bk, kTurn_rt, kWh_t, kWh_f, forF_nil, kFor_some, semFn_ap, kFn_rt, kFn_nx, plain_fz, plain_io, mItems_ap, kIt_val, kIt_new, kIt_bor, kItB_fz, kItB_ow, kItB_io, kSrc_some, items_tup, items_lst, items_rol, mRng_ap, kRn_ap, kR_some, plainArg, val, new, negF, notF, lenF, absF, intF, boolF, max2F, min2F, tupleF, listF, fI, fI0, slF, isL, Rz.rv, eq_self, List.getElem?_cons_succ, List.getElem?_cons_zero, List.set_cons_succ, List.set_cons_zero, Option.map_some, Option.map_none, Option.bind_some, decide_true, decide_false, decide_not, Bool.not_true, Bool.not_false, Bool.true_and, Bool.and_true, Bool.false_and, Bool.and_false, Bool.true_or, Bool.or_true, Bool.false_or, Bool.or_false, List.nil_append, List.cons_append, List.append_nil, List.length_cons, List.length_nil, List.length_append, List.length_map, List.replicate_succ, List.replicate_zero, List.all_cons, List.all_nil, if_true, if_false, ite_true, ite_false, Nat.sub_self, Nat.reduceAdd, Nat.reduceSub, Nat.reduceLeDiff, Nat.reduceLT, List.take_succ_cons, List.take_zero, true_and, and_true, not_true, not_false_eq_true, and_self, List.nodup_nil, List.nodup_cons, List.mem_cons, List.not_mem_nil, or_false, false_or, List.map_cons, List.map_nil, List.map_append, Bool.decide_eq_true, Nat.zero_le, Bool.cond_true, Bool.cond_false, ↓reduceIte, reduceCtorEq, Int.reduceLT, Int.reduceLE, Int.reduceNeg, Int.reduceAdd, Int.reduceMul, Int.reduceSub, Int.reduceEq, Nat.reduceEqDiff, Nat.zero_add, id, c__law_term_drawn_1, w__law_term_drawn_1, neF_snoc, hc, pairD, n5, n6, n7, n8, q1, q2, q7, q4, q9, e4, e1, q5, q6, L, sf, sps2]
              · simp -implicitDefEqProofs only [kR_r1, kR_r2, kR_r3d, intsD, mFor_ap, kForS_ap, addF_ii, addF_tt, addF_ll, addF_ss, mulF_ii, mulF_tt, mulF_ll, subF_ii, ltF_ii, leF_ii, gtF_ii, geF_ii, modF_ii, divF_ii, powF_ii, cutD_lo, cutD_hi, cutD_mid, cutD_m1, mYes_ap, truD, isi_set_int, isi_set_bool, isi_set_tuple, isi_set_list, isi_set_str, isi_set_dict, mLc_ap, allF_f, anyF_f, isi_non_int, isi_bl_int, isi_int_int, isi_str_int, isi_tup_int, isi_lst_int, isi_dK_int, isi_dT_int, isi_non_bool, isi_bl_bool, isi_int_bool, isi_str_bool, isi_tup_bool, isi_lst_bool, isi_dK_bool, isi_dT_bool, isi_non_tuple, isi_bl_tuple, isi_int_tuple, isi_str_tuple, isi_tup_tuple, isi_lst_tuple, isi_dK_tuple, isi_dT_tuple, isi_non_list, isi_bl_list, isi_int_list, isi_str_list, isi_tup_list, isi_lst_list, isi_dK_list, isi_dT_list, isi_non_str, isi_bl_str, isi_int_str, isi_str_str, isi_tup_str, isi_lst_str, isi_dK_str, isi_dT_str, isi_non_dict, isi_bl_dict, isi_int_dict, isi_str_dict, isi_tup_dict, isi_lst_dict, isi_dK_dict, isi_dT_dict, eqF_int, neF_int, eqF_bl, neF_bl, eqF_T, neF_T, eqF_Tm, neF_Tm, bndR_ok, bndR_none, bnd_ap, ret_ap, stuck_ap, mVar_ap, kVar_fz, kVar_ow, kVar_io, mC_ap, content_val, content_new, content_bor, slD_fz, slD_ow, slD_io, rv_f, rv_t, val_eq, new_eq, kRz_some, kRz_none, kP1_some, prim1_ap, kP2_some, prim2_ap, mBin_ap, kBin_ap, kBin2_ap, mUn_ap, kUn_ap, mTest_ap, kTest_ap, mTruth_ap, kTruth_ap, kTru_some, mNotT_ap, kNot_ap, mAndT_ap, mOrT_ap, kAnd_t, kAnd_f, kOr_t, kOr_f, mIf_ap, mIte_ap, kIf_t, kIf_f, mAndV_ap, mOrV_ap, kAndV_t, kAndV_f, kOrV_t, kOrV_f, mChain_ap, kCh1_ap, kCh2_ap, kCh3_ap, kLink_t, kLink_f, mChain3_ap, kC31_ap, kC32_ap, settle_val, settle_new, settle_bor, kSl_fz, kSl_ow, kOk_some, mD_ap, kD_ap, mCons_ap, kCons1_ap, kCons2_ap, mNil_ap, mStar_ap, kStar_ap, kStar1_some, kStar2_ap, mTup_ap, mLst_ap, kTup_ok, kLst_ok, mDict0_ap, mNoPart_ap, mPart_ap, kPart_ap, mSl_ap, kS1_ap, kS2_ap, kS3_ap, kS4_some, mRNil_ap, mRCons_ap, kR1_ap, kR2_ap, contents_nil, contents_cons, kCts_some, mCallB_ap, kCB_ap, kCB1_some, mArg_ap, kArg_f, kArg_val, kArg_new, kArg_bor, kArB_ow, kArB_io, mANil_ap, mACons_ap, kA1_ap, kA2_ap, mCall_ap, kCall_ap, kCall1_some, kFin_ok, owned_ow, owned_io, owned_fz, slsOf_nil, slsOf_pl, slsOf_tp, slsOf_ob, kOb_some, back_nil, back_pl, back_tp, back_ob, obs_nil, obs_pl, obs_tp, obs_ob, tps_nil, tps_pl, tps_tp, tps_ob, setOwn_ap, kSO_ow, kSO_io, mMut_ap, kMut0_some, kMut_some, mHas_ap, kHas_lst, mAppend_ap, kApp_ap, mPop_ap, mExtend_ap, kExt_ap, kExt1_some, appF_ok, extF_ok, popF_snoc, mSeq_ap, kSeq_nx, kSeq_rt, kSeq_bk, kSeq_ct, mSkip_ap, mBrk_ap, mCnt_ap, mExpr_ap, kDrop_ap, mRet_ap, kRet_val, kRet_new, kRet_bor, kRetB_fz, kRetB_ow, mRetN_ap, kNx_some, mSet_ap, kSet_ap, setSl_ap, kSS_no, kSS_fz, kSS_ow, kSS_pl, z1, z2, z3, z4, z5, z6, z7, z8, z9, z10, z11, z12, z13, z14, z15, z16, z17, z18, z19, z20, ixF_lst0, ixF_lst1, ixF_lst2, ixF_lst3, ixF_lstm, ixF_tup0, ixF_tup1, ixF_tup2, ixF_tup3, ixF_tupm, ixF_rol0, ixF_rol1, ixF_rol2, ixF_rol3, ixF_rolm, setF_0, setF_1, setF_2, setF_3, putRv_val, putRv_new, putRv_bor, noIo_no, noIo_fz, noIo_ow, mAsg_ap, kAsg_ap, gNm_ap, gTp_ap, gsNil_ap, gsCons_ap, mSt_ap, kSt_val, kSt_new, kSt_bor, mPNil_ap, mPCons_ap, kPC1_ap, mPar_ap, kPar_ap, putN_nil, putN_cons, mAug_ap, kAug_fz, kAug1_ap, mSetIx_ap, kIx_ap, kIx1_some, kIx2_ap, kIx3_some, kIx5_some, kIx4_some, setF_ok, mTurn_ap, kTurn_nx, kTurn_ct, kTurn_bk, kTurn_rt, kWh_t, kWh_f, forF_nil, kFor_some, semFn_ap, kFn_rt, kFn_nx, plain_fz, plain_io, mItems_ap, kIt_val, kIt_new, kIt_bor, kItB_fz, kItB_ow, kItB_io, kSrc_some, items_tup, items_lst, items_rol, mRng_ap, kRn_ap, kR_some, plainArg, val, new, negF, notF, lenF, absF, intF, boolF, max2F, min2F, tupleF, listF, fI, fI0, slF, isL, Rz.rv, eq_self, List.getElem?_cons_succ, List.getElem?_cons_zero, List.set_cons_succ, List.set_cons_zero, Option.map_some, Option.map_none, Option.bind_some, decide_true, decide_false, decide_not, Bool.not_true, Bool.not_false, Bool.true_and, Bool.and_true, Bool.false_and, Bool.and_false, Bool.true_or, Bool.or_true, Bool.false_or, Bool.or_false, List.nil_append, List.cons_append, List.append_nil, List.length_cons, List.length_nil, List.length_append, List.length_map, List.replicate_succ, List.replicate_zero, List.all_cons, List.all_nil, if_true, if_false, ite_true, ite_false, Nat.sub_self, Nat.reduceAdd, Nat.reduceSub, Nat.reduceLeDiff, Nat.reduceLT, List.take_succ_cons, List.take_zero, true_and, and_true, not_true, not_false_eq_true, and_self, List.nodup_nil, List.nodup_cons, List.mem_cons, List.not_mem_nil, or_false, false_or, List.map_cons, List.map_nil, List.map_append, Bool.decide_eq_true, Nat.zero_le, Bool.cond_true, Bool.cond_false, ↓reduceIte, reduceCtorEq, Int.reduceLT, Int.reduceLE, Int.reduceNeg, Int.reduceAdd, Int.reduceMul, Int.reduceSub, Int.reduceEq, Nat.reduceEqDiff, Nat.zero_add, id, c__law_term_drawn_1, w__law_term_drawn_1, neF_snoc, hc, pairD, n5, n6, n7, n8, q1, q2, q7, q9, e4, e1, q5, q6, L, sf, sps2]
end PL

namespace PL
open PySem L2
theorem drawn_loop {size o : Int} {B : Nat} (hB : B ≤ 1000) (ho : 0 ≤ o) (ho2 : o ≤ 1000) : ∀ (n : Nat) (found : List Int) (ps : List (Int × Int)) (d : D) (s5 s6 s7 s8 : Sl), wts o ps ≤ n → Drawn o B found ps → Dice d → isPl s5 = true → isPl s6 = true → isPl s7 = true → isPl s8 = true →
    ∃ t d' s5' s6' s7' s8', Drawn o B t [] ∧ Dice d' ∧
      mWhile c__law_term_drawn_1 w__law_term_drawn_1 [.io d, .fz (.int size), .fz (.int o), .ow (L found), .ow (.lst (ps.map pairD)), s5, s6, s7, s8] =
      some (.ok .nx [.io d', .fz (.int size), .fz (.int o), .ow (L t), .ow (.lst []), s5', s6', s7', s8']) := by
  intro n
  induction n with
  | zero =>
    intro found ps d s5 s6 s7 s8 hn hd hD h5 h6 h7 h8
    cases ps with
    | nil =>
      refine ⟨found, d, s5, s6, s7, s8, hd, hD, ?_⟩
      rw [mWhile_eq]
      simp -implicitDefEqProofs only [kR_r1, kR_r2, kR_r3d, intsD, mFor_ap, kForS_ap, addF_ii, addF_tt, addF_ll, addF_ss, mulF_ii, mulF_tt, mulF_ll, subF_ii, ltF_ii, leF_ii, gtF_ii, geF_ii, modF_ii, divF_ii, powF_ii, cutD_lo, cutD_hi, cutD_mid, cutD_m1, mYes_ap, truD, isi_set_int, isi_set_bool, isi_set_tuple, isi_set_list, isi_set_str, isi_set_dict, mLc_ap, allF_f, anyF_f, isi_non_int, isi_bl_int, isi_int_int, isi_str_int, isi_tup_int, isi_lst_int, isi_dK_int, isi_dT_int, isi_non_bool, isi_bl_bool, isi_int_bool, isi_str_bool, isi_tup_bool, isi_lst_bool, isi_dK_bool, isi_dT_bool, isi_non_tuple, isi_bl_tuple, isi_int_tuple, isi_str_tuple, isi_tup_tuple, isi_lst_tuple, isi_dK_tuple, isi_dT_tuple, isi_non_list, isi_bl_list, isi_int_list, isi_str_list, isi_tup_list, isi_lst_list, isi_dK_list, isi_dT_list, isi_non_str, isi_bl_str, isi_int_str, isi_str_str, isi_tup_str, isi_lst_str, isi_dK_str, isi_dT_str, isi_non_dict, isi_bl_dict, isi_int_dict, isi_str_dict, isi_tup_dict, isi_lst_dict, isi_dK_dict, isi_dT_dict, eqF_int, neF_int, eqF_bl, neF_bl, eqF_T, neF_T, eqF_Tm, neF_Tm, bndR_ok, bndR_none, bnd_ap, ret_ap, stuck_ap, mVar_ap, kVar_fz, kVar_ow, kVar_io, mC_ap, content_val, content_new, content_bor, slD_fz, slD_ow, slD_io, rv_f, rv_t, val_eq, new_eq, kRz_some, kRz_none, kP1_some, prim1_ap, kP2_some, prim2_ap, mBin_ap, kBin_ap, kBin2_ap, mUn_ap, kUn_ap, mTest_ap, kTest_ap, mTruth_ap, kTruth_ap, kTru_some, mNotT_ap, kNot_ap, mAndT_ap, mOrT_ap, kAnd_t, kAnd_f, kOr_t, kOr_f, mIf_ap, mIte_ap, kIf_t, kIf_f, mAndV_ap, mOrV_ap, kAndV_t, kAndV_f, kOrV_t, kOrV_f, mChain_ap, kCh1_ap, kCh2_ap, kCh3_ap, kLink_t, kLink_f, mChain3_ap, kC31_ap, kC32_ap, settle_val, settle_new, settle_bor, kSl_fz, kSl_ow, kOk_some, mD_ap, kD_ap, mCons_ap, kCons1_ap, kCons2_ap, mNil_ap, mStar_ap, kStar_ap, kStar1_some, kStar2_ap, mTup_ap, mLst_ap, kTup_ok, kLst_ok, mDict0_ap, mNoPart_ap, mPart_ap, kPart_ap, mSl_ap, kS1_ap, kS2_ap, kS3_ap, kS4_some, mRNil_ap, mRCons_ap, kR1_ap, kR2_ap, contents_nil, contents_cons, kCts_some, mCallB_ap, kCB_ap, kCB1_some, mArg_ap, kArg_f, kArg_val, kArg_new, kArg_bor, kArB_ow, kArB_io, mANil_ap, mACons_ap, kA1_ap, kA2_ap, mCall_ap, kCall_ap, kCall1_some, kFin_ok, owned_ow, owned_io, owned_fz, slsOf_nil, slsOf_pl, slsOf_tp, slsOf_ob, kOb_some, back_nil, back_pl, back_tp, back_ob, obs_nil, obs_pl, obs_tp, obs_ob, tps_nil, tps_pl, tps_tp, tps_ob, setOwn_ap, kSO_ow, kSO_io, mMut_ap, kMut0_some, kMut_some, mHas_ap, kHas_lst, mAppend_ap, kApp_ap, mPop_ap, mExtend_ap, kExt_ap, kExt1_some, appF_ok, extF_ok, popF_snoc, mSeq_ap, kSeq_nx, kSeq_rt, kSeq_bk, kSeq_ct, mSkip_ap, mBrk_ap, mCnt_ap, mExpr_ap, kDrop_ap, mRet_ap, kRet_val, kRet_new, kRet_bor, kRetB_fz, kRetB_ow, mRetN_ap, kNx_some, mSet_ap, kSet_ap, setSl_ap, kSS_no, kSS_fz, kSS_ow, kSS_pl, z1, z2, z3, z4, z5, z6, z7, z8, z9, z10, z11, z12, z13, z14, z15, z16, z17, z18, z19, z20, ixF_lst0, ixF_lst1, ixF_lst2, ixF_lst3, ixF_lstm, ixF_tup0, ixF_tup1, ixF_tup2, ixF_tup3, ixF_tupm, ixF_rol0, ixF_rol1, ixF_rol2, ixF_rol3, ixF_rolm, setF_0, setF_1, setF_2, setF_3, putRv_val, putRv_new, putRv_bor, noIo_no, noIo_fz, noIo_ow, mAsg_ap, kAsg_ap, gNm_ap, gTp_ap, gsNil_ap, gsCons_ap, mSt_ap, kSt_val, kSt_new, kSt_bor, mPNil_ap, mPCons_ap, kPC1_ap, mPar_ap, kPar_ap, putN_nil, putN_cons, mAug_ap, kAug_fz, kAug1_ap, mSetIx_ap, kIx_ap, kIx1_some, kIx2_ap, kIx3_some, kIx5_some, kIx4_some, setF_ok, mTurn_ap, kTurn_nx, kTurn_ct, kTurn_bk, kTurn_rt, kWh_t, kWh_f, forF_nil, kFor_some, semFn_ap, kFn_rt, kFn_nx, plain_fz, plain_io, mItems_ap, kIt_val, kIt_new, kIt_bor, kItB_fz, kItB_ow, kItB_io, kSrc_some, items_tup, items_lst, items_rol, mRng_ap, kRn_ap, kR_some, plainArg, val, new, negF, notF, lenF, absF, intF, boolF, max2F, min2F, tupleF, listF, fI, fI0, slF, isL, Rz.rv, eq_self, List.getElem?_cons_succ, List.getElem?_cons_zero, List.set_cons_succ, List.set_cons_zero, Option.map_some, Option.map_none, Option.bind_some, decide_true, decide_false, decide_not, Bool.not_true, Bool.not_false, Bool.true_and, Bool.and_true, Bool.false_and, Bool.and_false, Bool.true_or, Bool.or_true, Bool.false_or, Bool.or_false, List.nil_append, List.cons_append, List.append_nil, List.length_cons, List.length_nil, List.length_append, List.length_map, List.replicate_succ, List.replicate_zero, List.all_cons, List.all_nil, if_true, if_false, ite_true, ite_false, Nat.sub_self, Nat.reduceAdd, Nat.reduceSub, Nat.reduceLeDiff, Nat.reduceLT, List.take_succ_cons, List.take_zero, true_and, and_true, not_true, not_false_eq_true, and_self, List.nodup_nil, List.nodup_cons, List.mem_cons, List.not_mem_nil, or_false, false_or, List.map_cons, List.map_nil, List.map_append, Bool.decide_eq_true, Nat.zero_le, Bool.cond_true, Bool.cond_false, ↓reduceIte, reduceCtorEq, Int.reduceLT, Int.reduceLE, Int.reduceNeg, Int.reduceAdd, Int.reduceMul, Int.reduceSub, Int.reduceEq, Nat.reduceEqDiff, Nat.zero_add, id, c__law_term_drawn_1, w__law_term_drawn_1, neF_nil [] (by decide +kernel), List.isEmpty_nil]
    | cons p ps =>
      have := wt_pos o p
      simp [wts] at hn
      omega
  | succ n ih =>
    intro found ps d s5 s6 s7 s8 hn hd hD h5 h6 h7 h8
    rcases List.eq_nil_or_concat ps with rfl | ⟨qs, p, rfl⟩
    · refine ⟨found, d, s5, s6, s7, s8, hd, hD, ?_⟩
      rw [mWhile_eq]
      simp -implicitDefEqProofs only [kR_r1, kR_r2, kR_r3d, intsD, mFor_ap, kForS_ap, addF_ii, addF_tt, addF_ll, addF_ss, mulF_ii, mulF_tt, mulF_ll, subF_ii, ltF_ii, leF_ii, gtF_ii, geF_ii, modF_ii, divF_ii, powF_ii, cutD_lo, cutD_hi, cutD_mid, cutD_m1, mYes_ap, truD, isi_set_int, isi_set_bool, isi_set_tuple, isi_set_list, isi_set_str, isi_set_dict, mLc_ap, allF_f, anyF_f, isi_non_int, isi_bl_int, isi_int_int, isi_str_int, isi_tup_int, isi_lst_int, isi_dK_int, isi_dT_int, isi_non_bool, isi_bl_bool, isi_int_bool, isi_str_bool, isi_tup_bool, isi_lst_bool, isi_dK_bool, isi_dT_bool, isi_non_tuple, isi_bl_tuple, isi_int_tuple, isi_str_tuple, isi_tup_tuple, isi_lst_tuple, isi_dK_tuple, isi_dT_tuple, isi_non_list, isi_bl_list, isi_int_list, isi_str_list, isi_tup_list, isi_lst_list, isi_dK_list, isi_dT_list, isi_non_str, isi_bl_str, isi_int_str, isi_str_str, isi_tup_str, isi_lst_str, isi_dK_str, isi_dT_str, isi_non_dict, isi_bl_dict, isi_int_dict, isi_str_dict, isi_tup_dict, isi_lst_dict, isi_dK_dict, isi_dT_dict, eqF_int, neF_int, eqF_bl, neF_bl, eqF_T, neF_T, eqF_Tm, neF_Tm, bndR_ok, bndR_none, bnd_ap, ret_ap, stuck_ap, mVar_ap, kVar_fz, kVar_ow, kVar_io, mC_ap, content_val, content_new, content_bor, slD_fz, slD_ow, slD_io, rv_f, rv_t, val_eq, new_eq, kRz_some, kRz_none, kP1_some, prim1_ap, kP2_some, prim2_ap, mBin_ap, kBin_ap, kBin2_ap, mUn_ap, kUn_ap, mTest_ap, kTest_ap, mTruth_ap, kTruth_ap, kTru_some, mNotT_ap, kNot_ap, mAndT_ap, mOrT_ap, kAnd_t, kAnd_f, kOr_t, kOr_f, mIf_ap, mIte_ap, kIf_t, kIf_f, mAndV_ap, mOrV_ap, kAndV_t, kAndV_f, kOrV_t, kOrV_f, mChain_ap, kCh1_ap, kCh2_ap, kCh3_ap, kLink_t, kLink_f, mChain3_ap, kC31_ap, kC32_ap, settle_val, settle_new, settle_bor, kSl_fz, kSl_ow, kOk_some, mD_ap, kD_ap, mCons_ap, kCons1_ap, kCons2_ap, mNil_ap, mStar_ap, kStar_ap, kStar1_some, kStar2_ap, mTup_ap, mLst_ap, kTup_ok, kLst_ok, mDict0_ap, mNoPart_ap, mPart_ap, kPart_ap, mSl_ap, kS1_ap, kS2_ap, kS3_ap, kS4_some, mRNil_ap, mRCons_ap, kR1_ap, kR2_ap, contents_nil, contents_cons, kCts_some, mCallB_ap, kCB_ap, kCB1_some, mArg_ap, kArg_f, kArg_val, kArg_new, kArg_bor, kArB_ow, kArB_io, mANil_ap, mACons_ap, kA1_ap, kA2_ap, mCall_ap, kCall_ap, kCall1_some, kFin_ok, owned_ow, owned_io, owned_fz, slsOf_nil, slsOf_pl, slsOf_tp, slsOf_ob, kOb_some, back_nil, back_pl, back_tp, back_ob, obs_nil, obs_pl, obs_tp, obs_ob, tps_nil, tps_pl, tps_tp, tps_ob, setOwn_ap, kSO_ow, kSO_io, mMut_ap, kMut0_some, kMut_some, mHas_ap, kHas_lst, mAppend_ap, kApp_ap, mPop_ap, mExtend_ap, kExt_ap, kExt1_some, appF_ok, extF_ok, popF_snoc, mSeq_ap, kSeq_nx, kSeq_rt, kSeq_bk, kSeq_ct, mSkip_ap, mBrk_ap, mCnt_ap, mExpr_ap, kDrop_ap, mRet_ap, kRet_val, kRet_new, kRet_bor, kRetB_fz, kRetB_ow, mRetN_ap, kNx_some, mSet_ap, kSet_ap, setSl_ap, kSS_no, kSS_fz, kSS_ow, kSS_pl, z1, z2, z3, z4, z5, z6, z7, z8, z9, z10, z11, z12, z13, z14, z15, z16, z17, z18, z19, z20, ixF_lst0, ixF_lst1, ixF_lst2, ixF_lst3, ixF_lstm, ixF_tup0, ixF_tup1, ixF_tup2, ixF_tup3, ixF_tupm, ixF_rol0, ixF_rol1, ixF_rol2, ixF_rol3, ixF_rolm, setF_0, setF_1, setF_2, setF_3, putRv_val, putRv_new, putRv_bor, noIo_no, noIo_fz, noIo_ow, mAsg_ap, kAsg_ap, gNm_ap, gTp_ap, gsNil_ap, gsCons_ap, mSt_ap, kSt_val, kSt_new, kSt_bor, mPNil_ap, mPCons_ap, kPC1_ap, mPar_ap, kPar_ap, putN_nil, putN_cons, mAug_ap, kAug_fz, kAug1_ap, mSetIx_ap, kIx_ap, kIx1_some, kIx2_ap, kIx3_some, kIx5_some, kIx4_some, setF_ok, mTurn_ap, kTurn_nx, kTurn_ct, kTurn_bk, kTurn_rt, kWh_t, kWh_f, forF_nil, kFor_some, semFn_ap, kFn_rt, kFn_nx, plain_fz, plain_io, mItems_ap, kIt_val, kIt_new, kIt_bor, kItB_fz, kItB_ow, kItB_io, kSrc_some, items_tup, items_lst, items_rol, mRng_ap, kRn_ap, kR_some, plainArg, val, new, negF, notF, lenF, absF, intF, boolF, max2F, min2F, tupleF, listF, fI, fI0, slF, isL, Rz.rv, eq_self, List.getElem?_cons_succ, List.getElem?_cons_zero, List.set_cons_succ, List.set_cons_zero, Option.map_some, Option.map_none, Option.bind_some, decide_true, decide_false, decide_not, Bool.not_true, Bool.not_false, Bool.true_and, Bool.and_true, Bool.false_and, Bool.and_false, Bool.true_or, Bool.or_true, Bool.false_or, Bool.or_false, List.nil_append, List.cons_append, List.append_nil, List.length_cons, List.length_nil, List.length_append, List.length_map, List.replicate_succ, List.replicate_zero, List.all_cons, List.all_nil, if_true, if_false, ite_true, ite_false, Nat.sub_self, Nat.reduceAdd, Nat.reduceSub, Nat.reduceLeDiff, Nat.reduceLT, List.take_succ_cons, List.take_zero, true_and, and_true, not_true, not_false_eq_true, and_self, List.nodup_nil, List.nodup_cons, List.mem_cons, List.not_mem_nil, or_false, false_or, List.map_cons, List.map_nil, List.map_append, Bool.decide_eq_true, Nat.zero_le, Bool.cond_true, Bool.cond_false, ↓reduceIte, reduceCtorEq, Int.reduceLT, Int.reduceLE, Int.reduceNeg, Int.reduceAdd, Int.reduceMul, Int.reduceSub, Int.reduceEq, Nat.reduceEqDiff, Nat.zero_add, id, c__law_term_drawn_1, w__law_term_drawn_1, neF_nil [] (by decide +kernel), List.isEmpty_nil]
    · obtain ⟨cs, qs', d', s5', s6', s7', s8', k1, k2, k3, k4, k5, k6, k7, k8, k9⟩ := drawn_step (size := size) (l := p.1) (dep := p.2) hB ho ho2 (by simpa using hd) hD h5 h6 h7 h8
      rw [List.concat_eq_append, k9]
      rw [List.concat_eq_append, wts_snoc] at hn
      obtain ⟨t, d2, t5, t6, t7, t8, j1, j2, j4⟩ := ih (found ++ cs) (qs ++ qs') d' s5' s6' s7' s8' (by rw [wts_app]; have : wt o p = wt o (p.1, p.2) := rfl; omega) k2 k4 k5 k6 k7 k8
      exact ⟨t, d2, t5, t6, t7, t8, j1, j2, j4⟩
/-- a drawn term -/
theorem term_drawn {size o : Int} {d : D} (hs : 0 ≤ size) (hs2 : size ≤ 400) (ho : 0 ≤ o) (ho2 : o ≤ 1000) (hD : Dice d) :
    ∃ t d', Dice d' ∧ shp 1 t = true ∧ (∀ c ∈ t, -1 ≤ c ∧ c ≤ (wt o (size, 0) : Int) + o) ∧ t.length ≤ wt o (size, 0) ∧ s__law_term_drawn [.io d, .fz (.int size), .fz (.int o)] = some (.ok (false, T t) [.io d', .fz (.int size), .fz (.int o)]) := by
  have wl : wt o (size, 0) = if 0 + o ≤ 0 then 2 * max size.toNat 1 else max size.toNat 1 := rfl
  have hB : wt o (size, 0) ≤ 1000 := by rw [wl]; split <;> omega
  have hd : Drawn o (wt o (size, 0)) [] [(size, 0)] := ⟨fun l => rfl, nofun, fun p hp => by simp only [List.mem_singleton] at hp; subst hp; simp, by rw [wts_one]; simp⟩
  obtain ⟨t, d', s5, s6, s7, s8, k1, k2, k3⟩ := drawn_loop (size := size) hB ho ho2 _ [] [(size, 0)] d .no .no .no .no (Nat.le_refl _) hd hD rfl rfl rfl rfl
  refine ⟨t, d', k2, by simpa [shp] using k1.shape [], k1.codes, by have := k1.size; omega, ?_⟩
  simp only [L, pairD, List.map_cons, List.map_nil] at k3
  have sz : t.length ≤ sizeLine := sizeL (by have := k1.size; omega)
  simp -implicitDefEqProofs only [kR_r1, kR_r2, kR_r3d, intsD, mFor_ap, kForS_ap, addF_ii, addF_tt, addF_ll, addF_ss, mulF_ii, mulF_tt, mulF_ll, subF_ii, ltF_ii, leF_ii, gtF_ii, geF_ii, modF_ii, divF_ii, powF_ii, cutD_lo, cutD_hi, cutD_mid, cutD_m1, mYes_ap, truD, isi_set_int, isi_set_bool, isi_set_tuple, isi_set_list, isi_set_str, isi_set_dict, mLc_ap, allF_f, anyF_f, isi_non_int, isi_bl_int, isi_int_int, isi_str_int, isi_tup_int, isi_lst_int, isi_dK_int, isi_dT_int, isi_non_bool, isi_bl_bool, isi_int_bool, isi_str_bool, isi_tup_bool, isi_lst_bool, isi_dK_bool, isi_dT_bool, isi_non_tuple, isi_bl_tuple, isi_int_tuple, isi_str_tuple, isi_tup_tuple, isi_lst_tuple, isi_dK_tuple, isi_dT_tuple, isi_non_list, isi_bl_list, isi_int_list, isi_str_list, isi_tup_list, isi_lst_list, isi_dK_list, isi_dT_list, isi_non_str, isi_bl_str, isi_int_str, isi_str_str, isi_tup_str, isi_lst_str, isi_dK_str, isi_dT_str, isi_non_dict, isi_bl_dict, isi_int_dict, isi_str_dict, isi_tup_dict, isi_lst_dict, isi_dK_dict, isi_dT_dict, eqF_int, neF_int, eqF_bl, neF_bl, eqF_T, neF_T, eqF_Tm, neF_Tm, bndR_ok, bndR_none, bnd_ap, ret_ap, stuck_ap, mVar_ap, kVar_fz, kVar_ow, kVar_io, mC_ap, content_val, content_new, content_bor, slD_fz, slD_ow, slD_io, rv_f, rv_t, val_eq, new_eq, kRz_some, kRz_none, kP1_some, prim1_ap, kP2_some, prim2_ap, mBin_ap, kBin_ap, kBin2_ap, mUn_ap, kUn_ap, mTest_ap, kTest_ap, mTruth_ap, kTruth_ap, kTru_some, mNotT_ap, kNot_ap, mAndT_ap, mOrT_ap, kAnd_t, kAnd_f, kOr_t, kOr_f, mIf_ap, mIte_ap, kIf_t, kIf_f, mAndV_ap, mOrV_ap, kAndV_t, kAndV_f, kOrV_t, kOrV_f, mChain_ap, kCh1_ap, kCh2_ap, kCh3_ap, kLink_t, kLink_f, mChain3_ap, kC31_ap, kC32_ap, settle_val, settle_new, settle_bor, kSl_fz, kSl_ow, kOk_some, mD_ap, kD_ap, mCons_ap, kCons1_ap, kCons2_ap, mNil_ap, mStar_ap, kStar_ap, kStar1_some, kStar2_ap, mTup_ap, mLst_ap, kTup_ok, kLst_ok, mDict0_ap, mNoPart_ap, mPart_ap, kPart_ap, mSl_ap, kS1_ap, kS2_ap, kS3_ap, kS4_some, mRNil_ap, mRCons_ap, kR1_ap, kR2_ap, contents_nil, contents_cons, kCts_some, mCallB_ap, kCB_ap, kCB1_some, mArg_ap, kArg_f, kArg_val, kArg_new, kArg_bor, kArB_ow, kArB_io, mANil_ap, mACons_ap, kA1_ap, kA2_ap, mCall_ap, kCall_ap, kCall1_some, kFin_ok, owned_ow, owned_io, owned_fz, slsOf_nil, slsOf_pl, slsOf_tp, slsOf_ob, kOb_some, back_nil, back_pl, back_tp, back_ob, obs_nil, obs_pl, obs_tp, obs_ob, tps_nil, tps_pl, tps_tp, tps_ob, setOwn_ap, kSO_ow, kSO_io, mMut_ap, kMut0_some, kMut_some, mHas_ap, kHas_lst, mAppend_ap, kApp_ap, mPop_ap, mExtend_ap, kExt_ap, kExt1_some, appF_ok, extF_ok, popF_snoc, mSeq_ap, kSeq_nx, kSeq_rt, kSeq_bk, kSeq_ct, mSkip_ap, mBrk_ap, mCnt_ap, mExpr_ap, kDrop_ap, mRet_ap, kRet_val, kRet_new, kRet_bor, kRetB_fz, kRetB_ow, mRetN_ap, kNx_some, mSet_ap, kSet_ap, setSl_ap, kSS_no, kSS_fz, kSS_ow, kSS_pl, z1, z2, z3, z4, z5, z6, z7, z8, z9, z10, z11, z12, z13, z14, z15, z16, z17, z18, z19, z20, ixF_lst0, ixF_lst1, ixF_lst2, ixF_lst3, ixF_lstm, ixF_tup0, ixF_tup1, ixF_tup2, ixF_tup3, ixF_tupm, ixF_rol0, ixF_rol1, ixF_rol2, ixF_rol3, ixF_rolm, setF_0, setF_1, setF_2, setF_3, putRv_val, putRv_new, putRv_bor, noIo_no, noIo_fz, noIo_ow, mAsg_ap, kAsg_ap, gNm_ap, gTp_ap, gsNil_ap, gsCons_ap, mSt_ap, kSt_val, kSt_new, kSt_bor, mPNil_ap, mPCons_ap, kPC1_ap, mPar_ap, kPar_ap, putN_nil, putN_cons, mAug_ap, kAug_fz, kAug1_ap, mSetIx_ap, kIx_ap, kIx1_some, kIx2_ap, kIx3_some, kIx5_some, kIx4_some, setF_ok, mTurn_ap, kTurn_nx, kTurn_ct, kTurn_bk, kTurn_rt, kWh_t, kWh_f, forF_nil, kFor_some, semFn_ap, kFn_rt, kFn_nx, plain_fz, plain_io, mItems_ap, kIt_val, kIt_new, kIt_bor, kItB_fz, kItB_ow, kItB_io, kSrc_some, items_tup, items_lst, items_rol, mRng_ap, kRn_ap, kR_some, plainArg, val, new, negF, notF, lenF, absF, intF, boolF, max2F, min2F, tupleF, listF, fI, fI0, slF, isL, Rz.rv, eq_self, List.getElem?_cons_succ, List.getElem?_cons_zero, List.set_cons_succ, List.set_cons_zero, Option.map_some, Option.map_none, Option.bind_some, decide_true, decide_false, decide_not, Bool.not_true, Bool.not_false, Bool.true_and, Bool.and_true, Bool.false_and, Bool.and_false, Bool.true_or, Bool.or_true, Bool.false_or, Bool.or_false, List.nil_append, List.cons_append, List.append_nil, List.length_cons, List.length_nil, List.length_append, List.length_map, List.replicate_succ, List.replicate_zero, List.all_cons, List.all_nil, if_true, if_false, ite_true, ite_false, Nat.sub_self, Nat.reduceAdd, Nat.reduceSub, Nat.reduceLeDiff, Nat.reduceLT, List.take_succ_cons, List.take_zero, true_and, and_true, not_true, not_false_eq_true, and_self, List.nodup_nil, List.nodup_cons, List.mem_cons, List.not_mem_nil, or_false, false_or, List.map_cons, List.map_nil, List.map_append, Bool.decide_eq_true, Nat.zero_le, Bool.cond_true, Bool.cond_false, ↓reduceIte, reduceCtorEq, Int.reduceLT, Int.reduceLE, Int.reduceNeg, Int.reduceAdd, Int.reduceMul, Int.reduceSub, Int.reduceEq, Nat.reduceEqDiff, Nat.zero_add, id, s__law_term_drawn, b__law_term_drawn, k3, L, T, sz]
end PL

namespace PL
open PySem L2
def DD (d : D) : Prop := Dice d
theorem dice_ok (ns : List Int) (at' : Int) (h0 : 0 ≤ at') (h1 : at' ≤ 62) : ∃ d, Dice d ∧ s__law_dice [.fz (.rol (ns.map D.int)), .fz (.int at')] = some (.ok (true, d) [.fz (.rol (ns.map D.int)), .fz (.int at')]) := by
  have c1 : CPowA 10 60 := by decide +kernel
  have c2 : CPowA (10 ^ 60) 10 := by decide +kernel
  have c3 : CPowA 10 18 := by decide +kernel
  have p1 : (60 : Int).toNat = 60 := rfl
  have p2 : (10 : Int).toNat = 10 := rfl
  have p3 : (18 : Int).toNat = 18 := rfl
  have g0 : (0 : Int) < (10 ^ 60) ^ 10 := by decide +kernel
  have d1 : ∀ x : Int, CDivA x (10 ^ 18) := fun x => .inr ⟨by decide +kernel, by decide +kernel⟩
  have a1 : ∀ x : Int, CMulA 109 x := fun x => cmulA_left (by decide) (by decide)
  have a2 : ∀ x : Int, CMulA 3571 x := fun x => cmulA_left (by decide) (by decide)
  have a3 : ∀ x : Int, CMulA 101 x := fun x => cmulA_left (by decide) (by decide)
  have a4 : ∀ x : Int, CMulA x 60611 := fun x => cmulA_right (by decide) (by decide)
  have end' : ∀ cell : Int, Dice (.lst [.int ((if cell < 0 then -cell else cell) % (10 ^ 60) ^ 10 / 10 ^ 18), .int (((if cell < 0 then -cell else cell) % (10 ^ 60) ^ 10 % 2147482577 * 60611 + 3571 * at' + 101 * (if cell < 0 then 1 else 0) + 137) % 2147482543), .int 0]) := fun cell =>
    ⟨_, _, _, rfl, Int.ediv_nonneg (Int.emod_nonneg _ (Int.ne_of_gt g0)) (by decide +kernel), Int.emod_nonneg _ (by decide), by have := Int.emod_lt_of_pos ((if cell < 0 then -cell else cell) % (10 ^ 60) ^ 10 % 2147482577 * 60611 + 3571 * at' + 101 * (if cell < 0 then 1 else 0) + 137) (show (0 : Int) < 2147482543 by decide); omega, by decide⟩
  by_cases q : at' < (ns.length : Int)
  · have q' : at'.toNat < (ns.map D.int).length := by simp; omega
    refine ⟨_, end' ns[at'.toNat], ?_⟩
    have e := ixF_rol (ds := ns.map D.int) h0 q'
    rw [List.getElem_map] at e
    by_cases n0 : ns[at'.toNat] < 0
    · simp -implicitDefEqProofs only [kR_r1, kR_r2, kR_r3d, intsD, mFor_ap, kForS_ap, addF_ii, addF_tt, addF_ll, addF_ss, mulF_ii, mulF_tt, mulF_ll, subF_ii, ltF_ii, leF_ii, gtF_ii, geF_ii, modF_ii, divF_ii, powF_ii, cutD_lo, cutD_hi, cutD_mid, cutD_m1, mYes_ap, truD, isi_set_int, isi_set_bool, isi_set_tuple, isi_set_list, isi_set_str, isi_set_dict, mLc_ap, allF_f, anyF_f, isi_non_int, isi_bl_int, isi_int_int, isi_str_int, isi_tup_int, isi_lst_int, isi_dK_int, isi_dT_int, isi_non_bool, isi_bl_bool, isi_int_bool, isi_str_bool, isi_tup_bool, isi_lst_bool, isi_dK_bool, isi_dT_bool, isi_non_tuple, isi_bl_tuple, isi_int_tuple, isi_str_tuple, isi_tup_tuple, isi_lst_tuple, isi_dK_tuple, isi_dT_tuple, isi_non_list, isi_bl_list, isi_int_list, isi_str_list, isi_tup_list, isi_lst_list, isi_dK_list, isi_dT_list, isi_non_str, isi_bl_str, isi_int_str, isi_str_str, isi_tup_str, isi_lst_str, isi_dK_str, isi_dT_str, isi_non_dict, isi_bl_dict, isi_int_dict, isi_str_dict, isi_tup_dict, isi_lst_dict, isi_dK_dict, isi_dT_dict, eqF_int, neF_int, eqF_bl, neF_bl, eqF_T, neF_T, eqF_Tm, neF_Tm, bndR_ok, bndR_none, bnd_ap, ret_ap, stuck_ap, mVar_ap, kVar_fz, kVar_ow, kVar_io, mC_ap, content_val, content_new, content_bor, slD_fz, slD_ow, slD_io, rv_f, rv_t, val_eq, new_eq, kRz_some, kRz_none, kP1_some, prim1_ap, kP2_some, prim2_ap, mBin_ap, kBin_ap, kBin2_ap, mUn_ap, kUn_ap, mTest_ap, kTest_ap, mTruth_ap, kTruth_ap, kTru_some, mNotT_ap, kNot_ap, mAndT_ap, mOrT_ap, kAnd_t, kAnd_f, kOr_t, kOr_f, mIf_ap, mIte_ap, kIf_t, kIf_f, mAndV_ap, mOrV_ap, kAndV_t, kAndV_f, kOrV_t, kOrV_f, mChain_ap, kCh1_ap, kCh2_ap, kCh3_ap, kLink_t, kLink_f, mChain3_ap, kC31_ap, kC32_ap, settle_val, settle_new, settle_bor, kSl_fz, kSl_ow, kOk_some, mD_ap, kD_ap, mCons_ap, kCons1_ap, kCons2_ap, mNil_ap, mStar_ap, kStar_ap, kStar1_some, kStar2_ap, mTup_ap, mLst_ap, kTup_ok, kLst_ok, mDict0_ap, mNoPart_ap, mPart_ap, kPart_ap, mSl_ap, kS1_ap, kS2_ap, kS3_ap, kS4_some, mRNil_ap, mRCons_ap, kR1_ap, kR2_ap, contents_nil, contents_cons, kCts_some, mCallB_ap, kCB_ap, kCB1_some, mArg_ap, kArg_f, kArg_val, kArg_new, kArg_bor, kArB_ow, kArB_io, mANil_ap, mACons_ap, kA1_ap, kA2_ap, mCall_ap, kCall_ap, kCall1_some, kFin_ok, owned_ow, owned_io, owned_fz, slsOf_nil, slsOf_pl, slsOf_tp, slsOf_ob, kOb_some, back_nil, back_pl, back_tp, back_ob, obs_nil, obs_pl, obs_tp, obs_ob, tps_nil, tps_pl, tps_tp, tps_ob, setOwn_ap, kSO_ow, kSO_io, mMut_ap, kMut0_some, kMut_some, mHas_ap, kHas_lst, mAppend_ap, kApp_ap, mPop_ap, mExtend_ap, kExt_ap, kExt1_some, appF_ok, extF_ok, popF_snoc, mSeq_ap, kSeq_nx, kSeq_rt, kSeq_bk, kSeq_ct, mSkip_ap, mBrk_ap, mCnt_ap, mExpr_ap, kDrop_ap, mRet_ap, kRet_val, kRet_new, kRet_bor, kRetB_fz, kRetB_ow, mRetN_ap, kNx_some, mSet_ap, kSet_ap, setSl_ap, kSS_no, kSS_fz, kSS_ow, kSS_pl, z1, z2, z3, z4, z5, z6, z7, z8, z9, z10, z11, z12, z13, z14, z15, z16, z17, z18, z19, z20, ixF_lst0, ixF_lst1, ixF_lst2, ixF_lst3, ixF_lstm, ixF_tup0, ixF_tup1, ixF_tup2, ixF_tup3, ixF_tupm, ixF_rol0, ixF_rol1, ixF_rol2, ixF_rol3, ixF_rolm, setF_0, setF_1, setF_2, setF_3, putRv_val, putRv_new, putRv_bor, noIo_no, noIo_fz, noIo_ow, mAsg_ap, kAsg_ap, gNm_ap, gTp_ap, gsNil_ap, gsCons_ap, mSt_ap, kSt_val, kSt_new, kSt_bor, mPNil_ap, mPCons_ap, kPC1_ap, mPar_ap, kPar_ap, putN_nil, putN_cons, mAug_ap, kAug_fz, kAug1_ap, mSetIx_ap, kIx_ap, kIx1_some, kIx2_ap, kIx3_some, kIx5_some, kIx4_some, setF_ok, mTurn_ap, kTurn_nx, kTurn_ct, kTurn_bk, kTurn_rt, kWh_t, kWh_f, forF_nil, kFor_some, semFn_ap, kFn_rt, kFn_nx, plain_fz, plain_io, mItems_ap, kIt_val, kIt_new, kIt_bor, kItB_fz, kItB_ow, kItB_io, kSrc_some, items_tup, items_lst, items_rol, mRng_ap, kRn_ap, kR_some, plainArg, val, new, negF, notF, lenF, absF, intF, boolF, max2F, min2F, tupleF, listF, fI, fI0, slF, isL, Rz.rv, eq_self, List.getElem?_cons_succ, List.getElem?_cons_zero, List.set_cons_succ, List.set_cons_zero, Option.map_some, Option.map_none, Option.bind_some, decide_true, decide_false, decide_not, Bool.not_true, Bool.not_false, Bool.true_and, Bool.and_true, Bool.false_and, Bool.and_false, Bool.true_or, Bool.or_true, Bool.false_or, Bool.or_false, List.nil_append, List.cons_append, List.append_nil, List.length_cons, List.length_nil, List.length_append, List.length_map, List.replicate_succ, List.replicate_zero, List.all_cons, List.all_nil, if_true, if_false, ite_true, ite_false, Nat.sub_self, Nat.reduceAdd, Nat.reduceSub, Nat.reduceLeDiff, Nat.reduceLT, List.take_succ_cons, List.take_zero, true_and, and_true, not_true, not_false_eq_true, and_self, List.nodup_nil, List.nodup_cons, List.mem_cons, List.not_mem_nil, or_false, false_or, List.map_cons, List.map_nil, List.map_append, Bool.decide_eq_true, Nat.zero_le, Bool.cond_true, Bool.cond_false, ↓reduceIte, reduceCtorEq, Int.reduceLT, Int.reduceLE, Int.reduceNeg, Int.reduceAdd, Int.reduceMul, Int.reduceSub, Int.reduceEq, Nat.reduceEqDiff, Nat.zero_add, id, s__law_dice, b__law_dice, c1, c2, c3, p1, p2, p3, g0, d1, a1, a2, a3, a4, q, e, n0]
    · simp -implicitDefEqProofs only [kR_r1, kR_r2, kR_r3d, intsD, mFor_ap, kForS_ap, addF_ii, addF_tt, addF_ll, addF_ss, mulF_ii, mulF_tt, mulF_ll, subF_ii, ltF_ii, leF_ii, gtF_ii, geF_ii, modF_ii, divF_ii, powF_ii, cutD_lo, cutD_hi, cutD_mid, cutD_m1, mYes_ap, truD, isi_set_int, isi_set_bool, isi_set_tuple, isi_set_list, isi_set_str, isi_set_dict, mLc_ap, allF_f, anyF_f, isi_non_int, isi_bl_int, isi_int_int, isi_str_int, isi_tup_int, isi_lst_int, isi_dK_int, isi_dT_int, isi_non_bool, isi_bl_bool, isi_int_bool, isi_str_bool, isi_tup_bool, isi_lst_bool, isi_dK_bool, isi_dT_bool, isi_non_tuple, isi_bl_tuple, isi_int_tuple, isi_str_tuple, isi_tup_tuple, isi_lst_tuple, isi_dK_tuple, isi_dT_tuple, isi_non_list, isi_bl_list, isi_int_list, isi_str_list, isi_tup_list, isi_lst_list, isi_dK_list, isi_dT_list, isi_non_str, isi_bl_str, isi_int_str, isi_str_str, isi_tup_str, isi_lst_str, isi_dK_str, isi_dT_str, isi_non_dict, isi_bl_dict, isi_int_dict, isi_str_dict, isi_tup_dict, isi_lst_dict, isi_dK_dict, isi_dT_dict, eqF_int, neF_int, eqF_bl, neF_bl, eqF_T, neF_T, eqF_Tm, neF_Tm, bndR_ok, bndR_none, bnd_ap, ret_ap, stuck_ap, mVar_ap, kVar_fz, kVar_ow, kVar_io, mC_ap, content_val, content_new, content_bor, slD_fz, slD_ow, slD_io, rv_f, rv_t, val_eq, new_eq, kRz_some, kRz_none, kP1_some, prim1_ap, kP2_some, prim2_ap, mBin_ap, kBin_ap, kBin2_ap, mUn_ap, kUn_ap, mTest_ap, kTest_ap, mTruth_ap, kTruth_ap, kTru_some, mNotT_ap, kNot_ap, mAndT_ap, mOrT_ap, kAnd_t, kAnd_f, kOr_t, kOr_f, mIf_ap, mIte_ap, kIf_t, kIf_f, mAndV_ap, mOrV_ap, kAndV_t, kAndV_f, kOrV_t, kOrV_f, mChain_ap, kCh1_ap, kCh2_ap, kCh3_ap, kLink_t, kLink_f, mChain3_ap, kC31_ap, kC32_ap, settle_val, settle_new, settle_bor, kSl_fz, kSl_ow, kOk_some, mD_ap, kD_ap, mCons_ap, kCons1_ap, kCons2_ap, mNil_ap, mStar_ap, kStar_ap, kStar1_some, kStar2_ap, mTup_ap, mLst_ap, kTup_ok, kLst_ok, mDict0_ap, mNoPart_ap, mPart_ap, kPart_ap, mSl_ap, kS1_ap, kS2_ap, kS3_ap, kS4_some, mRNil_ap, mRCons_ap, kR1_ap, kR2_ap, contents_nil, contents_cons, kCts_some, mCallB_ap, kCB_ap, kCB1_some, mArg_ap, kArg_f, kArg_val, kArg_new, kArg_bor, kArB_ow, kArB_io, mANil_ap, mACons_ap, kA1_ap, kA2_ap, mCall_ap, kCall_ap, kCall1_some, kFin_ok, owned_ow, owned_io, owned_fz, slsOf_nil, slsOf_pl, slsOf_tp, slsOf_ob, kOb_some, back_nil, back_pl, back_tp, back_ob, obs_nil, obs_pl, obs_tp, obs_ob, tps_nil, tps_pl, tps_tp, tps_ob, setOwn_ap, kSO_ow, kSO_io, mMut_ap, kMut0_some, kMut_some, mHas_ap, kHas_lst, mAppend_ap, kApp_ap, mPop_ap, mExtend_ap, kExt_ap, kExt1_some, appF_ok, extF_ok, popF_snoc, mSeq_ap, kSeq_nx, kSeq_rt, kSeq_bk, kSeq_ct, mSkip_ap, mBrk_ap, mCnt_ap, mExpr_ap, kDrop_ap, mRet_ap, kRet_val, kRet_new, kRet_bor, kRetB_fz, kRetB_ow, mRetN_ap, kNx_some, mSet_ap, kSet_ap, setSl_ap, kSS_no, kSS_fz, kSS_ow, kSS_pl, z1, z2, z3, z4, z5, z6, z7, z8, z9, z10, z11, z12, z13, z14, z15, z16, z17, z18, z19, z20, ixF_lst0, ixF_lst1, ixF_lst2, ixF_lst3, ixF_lstm, ixF_tup0, ixF_tup1, ixF_tup2, ixF_tup3, ixF_tupm, ixF_rol0, ixF_rol1, ixF_rol2, ixF_rol3, ixF_rolm, setF_0, setF_1, setF_2, setF_3, putRv_val, putRv_new, putRv_bor, noIo_no, noIo_fz, noIo_ow, mAsg_ap, kAsg_ap, gNm_ap, gTp_ap, gsNil_ap, gsCons_ap, mSt_ap, kSt_val, kSt_new, kSt_bor, mPNil_ap, mPCons_ap, kPC1_ap, mPar_ap, kPar_ap, putN_nil, putN_cons, mAug_ap, kAug_fz, kAug1_ap, mSetIx_ap, kIx_ap, kIx1_some, kIx2_ap, kIx3_some, kIx5_some, kIx4_some, setF_ok, mTurn_ap, kTurn_nx, kTurn_ct, kTurn_bk, kTurn_rt, kWh_t, kWh_f, forF_nil, kFor_some, semFn_ap, kFn_rt, kFn_nx, plain_fz, plain_io, mItems_ap, kIt_val, kIt_new, kIt_bor, kItB_fz, kItB_ow, kItB_io, kSrc_some, items_tup, items_lst, items_rol, mRng_ap, kRn_ap, kR_some, plainArg, val, new, negF, notF, lenF, absF, intF, boolF, max2F, min2F, tupleF, listF, fI, fI0, slF, isL, Rz.rv, eq_self, List.getElem?_cons_succ, List.getElem?_cons_zero, List.set_cons_succ, List.set_cons_zero, Option.map_some, Option.map_none, Option.bind_some, decide_true, decide_false, decide_not, Bool.not_true, Bool.not_false, Bool.true_and, Bool.and_true, Bool.false_and, Bool.and_false, Bool.true_or, Bool.or_true, Bool.false_or, Bool.or_false, List.nil_append, List.cons_append, List.append_nil, List.length_cons, List.length_nil, List.length_append, List.length_map, List.replicate_succ, List.replicate_zero, List.all_cons, List.all_nil, if_true, if_false, ite_true, ite_false, Nat.sub_self, Nat.reduceAdd, Nat.reduceSub, Nat.reduceLeDiff, Nat.reduceLT, List.take_succ_cons, List.take_zero, true_and, and_true, not_true, not_false_eq_true, and_self, List.nodup_nil, List.nodup_cons, List.mem_cons, List.not_mem_nil, or_false, false_or, List.map_cons, List.map_nil, List.map_append, Bool.decide_eq_true, Nat.zero_le, Bool.cond_true, Bool.cond_false, ↓reduceIte, reduceCtorEq, Int.reduceLT, Int.reduceLE, Int.reduceNeg, Int.reduceAdd, Int.reduceMul, Int.reduceSub, Int.reduceEq, Nat.reduceEqDiff, Nat.zero_add, id, s__law_dice, b__law_dice, c1, c2, c3, p1, p2, p3, g0, d1, a1, a2, a3, a4, q, e, n0]
  · refine ⟨_, end' (109 * at' + 59), ?_⟩
    have n0 : ¬ 109 * at' + 59 < 0 := by omega
    simp -implicitDefEqProofs only [kR_r1, kR_r2, kR_r3d, intsD, mFor_ap, kForS_ap, addF_ii, addF_tt, addF_ll, addF_ss, mulF_ii, mulF_tt, mulF_ll, subF_ii, ltF_ii, leF_ii, gtF_ii, geF_ii, modF_ii, divF_ii, powF_ii, cutD_lo, cutD_hi, cutD_mid, cutD_m1, mYes_ap, truD, isi_set_int, isi_set_bool, isi_set_tuple, isi_set_list, isi_set_str, isi_set_dict, mLc_ap, allF_f, anyF_f, isi_non_int, isi_bl_int, isi_int_int, isi_str_int, isi_tup_int, isi_lst_int, isi_dK_int, isi_dT_int, isi_non_bool, isi_bl_bool, isi_int_bool, isi_str_bool, isi_tup_bool, isi_lst_bool, isi_dK_bool, isi_dT_bool, isi_non_tuple, isi_bl_tuple, isi_int_tuple, isi_str_tuple, isi_tup_tuple, isi_lst_tuple, isi_dK_tuple, isi_dT_tuple, isi_non_list, isi_bl_list, isi_int_list, isi_str_list, isi_tup_list, isi_lst_list, isi_dK_list, isi_dT_list, isi_non_str, isi_bl_str, isi_int_str, isi_str_str, isi_tup_str, isi_lst_str, isi_dK_str, isi_dT_str, isi_non_dict, isi_bl_dict, isi_int_dict, isi_str_dict, isi_tup_dict, isi_lst_dict, isi_dK_dict, isi_dT_dict, eqF_int, neF_int, eqF_bl, neF_bl, eqF_T, neF_T, eqF_Tm, neF_Tm, bndR_ok, bndR_none, bnd_ap, ret_ap, stuck_ap, mVar_ap, kVar_fz, kVar_ow, kVar_io, mC_ap, content_val, content_new, content_bor, slD_fz, slD_ow, slD_io, rv_f, rv_t, val_eq, new_eq, kRz_some, kRz_none, kP1_some, prim1_ap, kP2_some, prim2_ap, mBin_ap, kBin_ap, kBin2_ap, mUn_ap, kUn_ap, mTest_ap, kTest_ap, mTruth_ap, kTruth_ap, kTru_some, mNotT_ap, kNot_ap, mAndT_ap, mOrT_ap, kAnd_t, kAnd_f, kOr_t, kOr_f, mIf_ap, mIte_ap, kIf_t, kIf_f, mAndV_ap, mOrV_ap, kAndV_t, kAndV_f, kOrV_t, kOrV_f, mChain_ap, kCh1_ap, kCh2_ap, kCh3_ap, kLink_t, kLink_f, mChain3_ap, kC31_ap, kC32_ap, settle_val, settle_new, settle_bor, kSl_fz, kSl_ow, kOk_some, mD_ap, kD_ap, mCons_ap, kCons1_ap, kCons2_ap, mNil_ap, mStar_ap, kStar_ap, kStar1_some, kStar2_ap, mTup_ap, mLst_ap, kTup_ok, kLst_ok, mDict0_ap, mNoPart_ap, mPart_ap, kPart_ap, mSl_ap, kS1_ap, kS2_ap, kS3_ap, kS4_some, mRNil_ap, mRCons_ap, kR1_ap, kR2_ap, contents_nil, contents_cons, kCts_some, mCallB_ap, kCB_ap, kCB1_some, mArg_ap, kArg_f, kArg_val, kArg_new, kArg_bor, kArB_ow, kArB_io, mANil_ap, mACons_ap, kA1_ap, kA2_ap, mCall_ap, kCall_ap, kCall1_some, kFin_ok, owned_ow, owned_io, owned_fz, slsOf_nil, slsOf_pl, slsOf_tp, slsOf_ob, kOb_some, back_nil, back_pl, back_tp, back_ob, obs_nil, obs_pl, obs_tp, obs_ob, tps_nil, tps_pl, tps_tp, tps_ob, setOwn_ap, kSO_ow, kSO_io, mMut_ap, kMut0_some, kMut_some, mHas_ap, kHas_lst, mAppend_ap, kApp_ap, mPop_ap, mExtend_ap, kExt_ap, kExt1_some, appF_ok, extF_ok, popF_snoc, mSeq_ap, kSeq_nx, kSeq_rt, kSeq_bk, kSeq_ct, mSkip_ap, mBrk_ap, mCnt_ap, mExpr_ap, kDrop_ap, mRet_ap, kRet_val, kRet_new, kRet_bor, kRetB_fz, kRetB_ow, mRetN_ap, kNx_some, mSet_ap, kSet_ap, setSl_ap, kSS_no, kSS_fz, kSS_ow, kSS_pl, z1, z2, z3, z4, z5, z6, z7, z8, z9, z10, z11, z12, z13, z14, z15, z16, z17, z18, z19, z20, ixF_lst0, ixF_lst1, ixF_lst2, ixF_lst3, ixF_lstm, ixF_tup0, ixF_tup1, ixF_tup2, ixF_tup3, ixF_tupm, ixF_rol0, ixF_rol1, ixF_rol2, ixF_rol3, ixF_rolm, setF_0, setF_1, setF_2, setF_3, putRv_val, putRv_new, putRv_bor, noIo_no, noIo_fz, noIo_ow, mAsg_ap, kAsg_ap, gNm_ap, gTp_ap, gsNil_ap, gsCons_ap, mSt_ap, kSt_val, kSt_new, kSt_bor, mPNil_ap, mPCons_ap, kPC1_ap, mPar_ap, kPar_ap, putN_nil, putN_cons, mAug_ap, kAug_fz, kAug1_ap, mSetIx_ap, kIx_ap, kIx1_some, kIx2_ap, kIx3_some, kIx5_some, kIx4_some, setF_ok, mTurn_ap, kTurn_nx, kTurn_ct, kTurn_bk, kTurn_rt, kWh_t, kWh_f, forF_nil, kFor_some, semFn_ap, kFn_rt, kFn_nx, plain_fz, plain_io, mItems_ap, kIt_val, kIt_new, kIt_bor, kItB_fz, kItB_ow, kItB_io, kSrc_some, items_tup, items_lst, items_rol, mRng_ap, kRn_ap, kR_some, plainArg, val, new, negF, notF, lenF, absF, intF, boolF, max2F, min2F, tupleF, listF, fI, fI0, slF, isL, Rz.rv, eq_self, List.getElem?_cons_succ, List.getElem?_cons_zero, List.set_cons_succ, List.set_cons_zero, Option.map_some, Option.map_none, Option.bind_some, decide_true, decide_false, decide_not, Bool.not_true, Bool.not_false, Bool.true_and, Bool.and_true, Bool.false_and, Bool.and_false, Bool.true_or, Bool.or_true, Bool.false_or, Bool.or_false, List.nil_append, List.cons_append, List.append_nil, List.length_cons, List.length_nil, List.length_append, List.length_map, List.replicate_succ, List.replicate_zero, List.all_cons, List.all_nil, if_true, if_false, ite_true, ite_false, Nat.sub_self, Nat.reduceAdd, Nat.reduceSub, Nat.reduceLeDiff, Nat.reduceLT, List.take_succ_cons, List.take_zero, true_and, and_true, not_true, not_false_eq_true, and_self, List.nodup_nil, List.nodup_cons, List.mem_cons, List.not_mem_nil, or_false, false_or, List.map_cons, List.map_nil, List.map_append, Bool.decide_eq_true, Nat.zero_le, Bool.cond_true, Bool.cond_false, ↓reduceIte, reduceCtorEq, Int.reduceLT, Int.reduceLE, Int.reduceNeg, Int.reduceAdd, Int.reduceMul, Int.reduceSub, Int.reduceEq, Nat.reduceEqDiff, Nat.zero_add, id, s__law_dice, b__law_dice, c1, c2, c3, p1, p2, p3, g0, d1, a1, a2, a3, a4, q, n0]
end PL

namespace PL
open PySem L2
def codeB : D → Bool
  | .int i => decide (-1 ≤ i) && decide (i ≤ 1000)
  | _ => false
/-- values whose type is told -/
def okV (d : D) : Prop := ∃ T, tyD d = some T
theorem whole_ok {d : D} (h : okV d) : s_is_whole_number [.fz d] = some (.ok (false, .bl (match d with | .int _ => true | _ => false)) [.fz d]) := by
  obtain ⟨T, h⟩ := h
  cases d with
  | rol _ => cases h
  | oth _ => cases h
  | _ => simp -implicitDefEqProofs only [kR_r1, kR_r2, kR_r3d, intsD, mFor_ap, kForS_ap, addF_ii, addF_tt, addF_ll, addF_ss, mulF_ii, mulF_tt, mulF_ll, subF_ii, ltF_ii, leF_ii, gtF_ii, geF_ii, modF_ii, divF_ii, powF_ii, cutD_lo, cutD_hi, cutD_mid, cutD_m1, mYes_ap, truD, isi_set_int, isi_set_bool, isi_set_tuple, isi_set_list, isi_set_str, isi_set_dict, mLc_ap, allF_f, anyF_f, isi_non_int, isi_bl_int, isi_int_int, isi_str_int, isi_tup_int, isi_lst_int, isi_dK_int, isi_dT_int, isi_non_bool, isi_bl_bool, isi_int_bool, isi_str_bool, isi_tup_bool, isi_lst_bool, isi_dK_bool, isi_dT_bool, isi_non_tuple, isi_bl_tuple, isi_int_tuple, isi_str_tuple, isi_tup_tuple, isi_lst_tuple, isi_dK_tuple, isi_dT_tuple, isi_non_list, isi_bl_list, isi_int_list, isi_str_list, isi_tup_list, isi_lst_list, isi_dK_list, isi_dT_list, isi_non_str, isi_bl_str, isi_int_str, isi_str_str, isi_tup_str, isi_lst_str, isi_dK_str, isi_dT_str, isi_non_dict, isi_bl_dict, isi_int_dict, isi_str_dict, isi_tup_dict, isi_lst_dict, isi_dK_dict, isi_dT_dict, eqF_int, neF_int, eqF_bl, neF_bl, eqF_T, neF_T, eqF_Tm, neF_Tm, bndR_ok, bndR_none, bnd_ap, ret_ap, stuck_ap, mVar_ap, kVar_fz, kVar_ow, kVar_io, mC_ap, content_val, content_new, content_bor, slD_fz, slD_ow, slD_io, rv_f, rv_t, val_eq, new_eq, kRz_some, kRz_none, kP1_some, prim1_ap, kP2_some, prim2_ap, mBin_ap, kBin_ap, kBin2_ap, mUn_ap, kUn_ap, mTest_ap, kTest_ap, mTruth_ap, kTruth_ap, kTru_some, mNotT_ap, kNot_ap, mAndT_ap, mOrT_ap, kAnd_t, kAnd_f, kOr_t, kOr_f, mIf_ap, mIte_ap, kIf_t, kIf_f, mAndV_ap, mOrV_ap, kAndV_t, kAndV_f, kOrV_t, kOrV_f, mChain_ap, kCh1_ap, kCh2_ap, kCh3_ap, kLink_t, kLink_f, mChain3_ap, kC31_ap, kC32_ap, settle_val, settle_new, settle_bor, kSl_fz, kSl_ow, kOk_some, mD_ap, kD_ap, mCons_ap, kCons1_ap, kCons2_ap, mNil_ap, mStar_ap, kStar_ap, kStar1_some, kStar2_ap, mTup_ap, mLst_ap, kTup_ok, kLst_ok, mDict0_ap, mNoPart_ap, mPart_ap, kPart_ap, mSl_ap, kS1_ap, kS2_ap, kS3_ap, kS4_some, mRNil_ap, mRCons_ap, kR1_ap, kR2_ap, contents_nil, contents_cons, kCts_some, mCallB_ap, kCB_ap, kCB1_some, mArg_ap, kArg_f, kArg_val, kArg_new, kArg_bor, kArB_ow, kArB_io, mANil_ap, mACons_ap, kA1_ap, kA2_ap, mCall_ap, kCall_ap, kCall1_some, kFin_ok, owned_ow, owned_io, owned_fz, slsOf_nil, slsOf_pl, slsOf_tp, slsOf_ob, kOb_some, back_nil, back_pl, back_tp, back_ob, obs_nil, obs_pl, obs_tp, obs_ob, tps_nil, tps_pl, tps_tp, tps_ob, setOwn_ap, kSO_ow, kSO_io, mMut_ap, kMut0_some, kMut_some, mHas_ap, kHas_lst, mAppend_ap, kApp_ap, mPop_ap, mExtend_ap, kExt_ap, kExt1_some, appF_ok, extF_ok, popF_snoc, mSeq_ap, kSeq_nx, kSeq_rt, kSeq_bk, kSeq_ct, mSkip_ap, mBrk_ap, mCnt_ap, mExpr_ap, kDrop_ap, mRet_ap, kRet_val, kRet_new, kRet_bor, kRetB_fz, kRetB_ow, mRetN_ap, kNx_some, mSet_ap, kSet_ap, setSl_ap, kSS_no, kSS_fz, kSS_ow, kSS_pl, z1, z2, z3, z4, z5, z6, z7, z8, z9, z10, z11, z12, z13, z14, z15, z16, z17, z18, z19, z20, ixF_lst0, ixF_lst1, ixF_lst2, ixF_lst3, ixF_lstm, ixF_tup0, ixF_tup1, ixF_tup2, ixF_tup3, ixF_tupm, ixF_rol0, ixF_rol1, ixF_rol2, ixF_rol3, ixF_rolm, setF_0, setF_1, setF_2, setF_3, putRv_val, putRv_new, putRv_bor, noIo_no, noIo_fz, noIo_ow, mAsg_ap, kAsg_ap, gNm_ap, gTp_ap, gsNil_ap, gsCons_ap, mSt_ap, kSt_val, kSt_new, kSt_bor, mPNil_ap, mPCons_ap, kPC1_ap, mPar_ap, kPar_ap, putN_nil, putN_cons, mAug_ap, kAug_fz, kAug1_ap, mSetIx_ap, kIx_ap, kIx1_some, kIx2_ap, kIx3_some, kIx5_some, kIx4_some, setF_ok, mTurn_ap, kTurn_nx, kTurn_ct, kTurn_bk, kTurn_rt, kWh_t, kWh_f, forF_nil, kFor_some, semFn_ap, kFn_rt, kFn_nx, plain_fz, plain_io, mItems_ap, kIt_val, kIt_new, kIt_bor, kItB_fz, kItB_ow, kItB_io, kSrc_some, items_tup, items_lst, items_rol, mRng_ap, kRn_ap, kR_some, plainArg, val, new, negF, notF, lenF, absF, intF, boolF, max2F, min2F, tupleF, listF, fI, fI0, slF, isL, Rz.rv, eq_self, List.getElem?_cons_succ, List.getElem?_cons_zero, List.set_cons_succ, List.set_cons_zero, Option.map_some, Option.map_none, Option.bind_some, decide_true, decide_false, decide_not, Bool.not_true, Bool.not_false, Bool.true_and, Bool.and_true, Bool.false_and, Bool.and_false, Bool.true_or, Bool.or_true, Bool.false_or, Bool.or_false, List.nil_append, List.cons_append, List.append_nil, List.length_cons, List.length_nil, List.length_append, List.length_map, List.replicate_succ, List.replicate_zero, List.all_cons, List.all_nil, if_true, if_false, ite_true, ite_false, Nat.sub_self, Nat.reduceAdd, Nat.reduceSub, Nat.reduceLeDiff, Nat.reduceLT, List.take_succ_cons, List.take_zero, true_and, and_true, not_true, not_false_eq_true, and_self, List.nodup_nil, List.nodup_cons, List.mem_cons, List.not_mem_nil, or_false, false_or, List.map_cons, List.map_nil, List.map_append, Bool.decide_eq_true, Nat.zero_le, Bool.cond_true, Bool.cond_false, ↓reduceIte, reduceCtorEq, Int.reduceLT, Int.reduceLE, Int.reduceNeg, Int.reduceAdd, Int.reduceMul, Int.reduceSub, Int.reduceEq, Nat.reduceEqDiff, Nat.zero_add, id, s_is_whole_number, b_is_whole_number]
theorem within_ok {d : D} (h : okV d) : s_is_within [.fz d, .fz (.int (-1)), .fz (.int 1000)] = some (.ok (false, .bl (codeB d)) [.fz d, .fz (.int (-1)), .fz (.int 1000)]) := by
  have w := whole_ok h
  cases d with
  | int i =>
    simp only at w
    by_cases h1 : -1 ≤ i
    · simp -implicitDefEqProofs only [kR_r1, kR_r2, kR_r3d, intsD, mFor_ap, kForS_ap, addF_ii, addF_tt, addF_ll, addF_ss, mulF_ii, mulF_tt, mulF_ll, subF_ii, ltF_ii, leF_ii, gtF_ii, geF_ii, modF_ii, divF_ii, powF_ii, cutD_lo, cutD_hi, cutD_mid, cutD_m1, mYes_ap, truD, isi_set_int, isi_set_bool, isi_set_tuple, isi_set_list, isi_set_str, isi_set_dict, mLc_ap, allF_f, anyF_f, isi_non_int, isi_bl_int, isi_int_int, isi_str_int, isi_tup_int, isi_lst_int, isi_dK_int, isi_dT_int, isi_non_bool, isi_bl_bool, isi_int_bool, isi_str_bool, isi_tup_bool, isi_lst_bool, isi_dK_bool, isi_dT_bool, isi_non_tuple, isi_bl_tuple, isi_int_tuple, isi_str_tuple, isi_tup_tuple, isi_lst_tuple, isi_dK_tuple, isi_dT_tuple, isi_non_list, isi_bl_list, isi_int_list, isi_str_list, isi_tup_list, isi_lst_list, isi_dK_list, isi_dT_list, isi_non_str, isi_bl_str, isi_int_str, isi_str_str, isi_tup_str, isi_lst_str, isi_dK_str, isi_dT_str, isi_non_dict, isi_bl_dict, isi_int_dict, isi_str_dict, isi_tup_dict, isi_lst_dict, isi_dK_dict, isi_dT_dict, eqF_int, neF_int, eqF_bl, neF_bl, eqF_T, neF_T, eqF_Tm, neF_Tm, bndR_ok, bndR_none, bnd_ap, ret_ap, stuck_ap, mVar_ap, kVar_fz, kVar_ow, kVar_io, mC_ap, content_val, content_new, content_bor, slD_fz, slD_ow, slD_io, rv_f, rv_t, val_eq, new_eq, kRz_some, kRz_none, kP1_some, prim1_ap, kP2_some, prim2_ap, mBin_ap, kBin_ap, kBin2_ap, mUn_ap, kUn_ap, mTest_ap, kTest_ap, mTruth_ap, kTruth_ap, kTru_some, mNotT_ap, kNot_ap, mAndT_ap, mOrT_ap, kAnd_t, kAnd_f, kOr_t, kOr_f, mIf_ap, mIte_ap, kIf_t, kIf_f, mAndV_ap, mOrV_ap, kAndV_t, kAndV_f, kOrV_t, kOrV_f, mChain_ap, kCh1_ap, kCh2_ap, kCh3_ap, kLink_t, kLink_f, mChain3_ap, kC31_ap, kC32_ap, settle_val, settle_new, settle_bor, kSl_fz, kSl_ow, kOk_some, mD_ap, kD_ap, mCons_ap, kCons1_ap, kCons2_ap, mNil_ap, mStar_ap, kStar_ap, kStar1_some, kStar2_ap, mTup_ap, mLst_ap, kTup_ok, kLst_ok, mDict0_ap, mNoPart_ap, mPart_ap, kPart_ap, mSl_ap, kS1_ap, kS2_ap, kS3_ap, kS4_some, mRNil_ap, mRCons_ap, kR1_ap, kR2_ap, contents_nil, contents_cons, kCts_some, mCallB_ap, kCB_ap, kCB1_some, mArg_ap, kArg_f, kArg_val, kArg_new, kArg_bor, kArB_ow, kArB_io, mANil_ap, mACons_ap, kA1_ap, kA2_ap, mCall_ap, kCall_ap, kCall1_some, kFin_ok, owned_ow, owned_io, owned_fz, slsOf_nil, slsOf_pl, slsOf_tp, slsOf_ob, kOb_some, back_nil, back_pl, back_tp, back_ob, obs_nil, obs_pl, obs_tp, obs_ob, tps_nil, tps_pl, tps_tp, tps_ob, setOwn_ap, kSO_ow, kSO_io, mMut_ap, kMut0_some, kMut_some, mHas_ap, kHas_lst, mAppend_ap, kApp_ap, mPop_ap, mExtend_ap, kExt_ap, kExt1_some, appF_ok, extF_ok, popF_snoc, mSeq_ap, kSeq_nx, kSeq_rt, kSeq_bk, kSeq_ct, mSkip_ap, mBrk_ap, mCnt_ap, mExpr_ap, kDrop_ap, mRet_ap, kRet_val, kRet_new, kRet_bor, kRetB_fz, kRetB_ow, mRetN_ap, kNx_some, mSet_ap, kSet_ap, setSl_ap, kSS_no, kSS_fz, kSS_ow, kSS_pl, z1, z2, z3, z4, z5, z6, z7, z8, z9, z10, z11, z12, z13, z14, z15, z16, z17, z18, z19, z20, ixF_lst0, ixF_lst1, ixF_lst2, ixF_lst3, ixF_lstm, ixF_tup0, ixF_tup1, ixF_tup2, ixF_tup3, ixF_tupm, ixF_rol0, ixF_rol1, ixF_rol2, ixF_rol3, ixF_rolm, setF_0, setF_1, setF_2, setF_3, putRv_val, putRv_new, putRv_bor, noIo_no, noIo_fz, noIo_ow, mAsg_ap, kAsg_ap, gNm_ap, gTp_ap, gsNil_ap, gsCons_ap, mSt_ap, kSt_val, kSt_new, kSt_bor, mPNil_ap, mPCons_ap, kPC1_ap, mPar_ap, kPar_ap, putN_nil, putN_cons, mAug_ap, kAug_fz, kAug1_ap, mSetIx_ap, kIx_ap, kIx1_some, kIx2_ap, kIx3_some, kIx5_some, kIx4_some, setF_ok, mTurn_ap, kTurn_nx, kTurn_ct, kTurn_bk, kTurn_rt, kWh_t, kWh_f, forF_nil, kFor_some, semFn_ap, kFn_rt, kFn_nx, plain_fz, plain_io, mItems_ap, kIt_val, kIt_new, kIt_bor, kItB_fz, kItB_ow, kItB_io, kSrc_some, items_tup, items_lst, items_rol, mRng_ap, kRn_ap, kR_some, plainArg, val, new, negF, notF, lenF, absF, intF, boolF, max2F, min2F, tupleF, listF, fI, fI0, slF, isL, Rz.rv, eq_self, List.getElem?_cons_succ, List.getElem?_cons_zero, List.set_cons_succ, List.set_cons_zero, Option.map_some, Option.map_none, Option.bind_some, decide_true, decide_false, decide_not, Bool.not_true, Bool.not_false, Bool.true_and, Bool.and_true, Bool.false_and, Bool.and_false, Bool.true_or, Bool.or_true, Bool.false_or, Bool.or_false, List.nil_append, List.cons_append, List.append_nil, List.length_cons, List.length_nil, List.length_append, List.length_map, List.replicate_succ, List.replicate_zero, List.all_cons, List.all_nil, if_true, if_false, ite_true, ite_false, Nat.sub_self, Nat.reduceAdd, Nat.reduceSub, Nat.reduceLeDiff, Nat.reduceLT, List.take_succ_cons, List.take_zero, true_and, and_true, not_true, not_false_eq_true, and_self, List.nodup_nil, List.nodup_cons, List.mem_cons, List.not_mem_nil, or_false, false_or, List.map_cons, List.map_nil, List.map_append, Bool.decide_eq_true, Nat.zero_le, Bool.cond_true, Bool.cond_false, ↓reduceIte, reduceCtorEq, Int.reduceLT, Int.reduceLE, Int.reduceNeg, Int.reduceAdd, Int.reduceMul, Int.reduceSub, Int.reduceEq, Nat.reduceEqDiff, Nat.zero_add, id, s_is_within, b_is_within, w, codeB, h1]
    · simp -implicitDefEqProofs only [kR_r1, kR_r2, kR_r3d, intsD, mFor_ap, kForS_ap, addF_ii, addF_tt, addF_ll, addF_ss, mulF_ii, mulF_tt, mulF_ll, subF_ii, ltF_ii, leF_ii, gtF_ii, geF_ii, modF_ii, divF_ii, powF_ii, cutD_lo, cutD_hi, cutD_mid, cutD_m1, mYes_ap, truD, isi_set_int, isi_set_bool, isi_set_tuple, isi_set_list, isi_set_str, isi_set_dict, mLc_ap, allF_f, anyF_f, isi_non_int, isi_bl_int, isi_int_int, isi_str_int, isi_tup_int, isi_lst_int, isi_dK_int, isi_dT_int, isi_non_bool, isi_bl_bool, isi_int_bool, isi_str_bool, isi_tup_bool, isi_lst_bool, isi_dK_bool, isi_dT_bool, isi_non_tuple, isi_bl_tuple, isi_int_tuple, isi_str_tuple, isi_tup_tuple, isi_lst_tuple, isi_dK_tuple, isi_dT_tuple, isi_non_list, isi_bl_list, isi_int_list, isi_str_list, isi_tup_list, isi_lst_list, isi_dK_list, isi_dT_list, isi_non_str, isi_bl_str, isi_int_str, isi_str_str, isi_tup_str, isi_lst_str, isi_dK_str, isi_dT_str, isi_non_dict, isi_bl_dict, isi_int_dict, isi_str_dict, isi_tup_dict, isi_lst_dict, isi_dK_dict, isi_dT_dict, eqF_int, neF_int, eqF_bl, neF_bl, eqF_T, neF_T, eqF_Tm, neF_Tm, bndR_ok, bndR_none, bnd_ap, ret_ap, stuck_ap, mVar_ap, kVar_fz, kVar_ow, kVar_io, mC_ap, content_val, content_new, content_bor, slD_fz, slD_ow, slD_io, rv_f, rv_t, val_eq, new_eq, kRz_some, kRz_none, kP1_some, prim1_ap, kP2_some, prim2_ap, mBin_ap, kBin_ap, kBin2_ap, mUn_ap, kUn_ap, mTest_ap, kTest_ap, mTruth_ap, kTruth_ap, kTru_some, mNotT_ap, kNot_ap, mAndT_ap, mOrT_ap, kAnd_t, kAnd_f, kOr_t, kOr_f, mIf_ap, mIte_ap, kIf_t, kIf_f, mAndV_ap, mOrV_ap, kAndV_t, kAndV_f, kOrV_t, kOrV_f, mChain_ap, kCh1_ap, kCh2_ap, kCh3_ap, kLink_t, kLink_f, mChain3_ap, kC31_ap, kC32_ap, settle_val, settle_new, settle_bor, kSl_fz, kSl_ow, kOk_some, mD_ap, kD_ap, mCons_ap, kCons1_ap, kCons2_ap, mNil_ap, mStar_ap, kStar_ap, kStar1_some, kStar2_ap, mTup_ap, mLst_ap, kTup_ok, kLst_ok, mDict0_ap, mNoPart_ap, mPart_ap, kPart_ap, mSl_ap, kS1_ap, kS2_ap, kS3_ap, kS4_some, mRNil_ap, mRCons_ap, kR1_ap, kR2_ap, contents_nil, contents_cons, kCts_some, mCallB_ap, kCB_ap, kCB1_some, mArg_ap, kArg_f, kArg_val, kArg_new, kArg_bor, kArB_ow, kArB_io, mANil_ap, mACons_ap, kA1_ap, kA2_ap, mCall_ap, kCall_ap, kCall1_some, kFin_ok, owned_ow, owned_io, owned_fz, slsOf_nil, slsOf_pl, slsOf_tp, slsOf_ob, kOb_some, back_nil, back_pl, back_tp, back_ob, obs_nil, obs_pl, obs_tp, obs_ob, tps_nil, tps_pl, tps_tp, tps_ob, setOwn_ap, kSO_ow, kSO_io, mMut_ap, kMut0_some, kMut_some, mHas_ap, kHas_lst, mAppend_ap, kApp_ap, mPop_ap, mExtend_ap, kExt_ap, kExt1_some, appF_ok, extF_ok, popF_snoc, mSeq_ap, kSeq_nx, kSeq_rt, kSeq_bk, kSeq_ct, mSkip_ap, mBrk_ap, mCnt_ap, mExpr_ap, kDrop_ap, mRet_ap, kRet_val, kRet_new, kRet_bor, kRetB_fz, kRetB_ow, mRetN_ap, kNx_some, mSet_ap, kSet_ap, setSl_ap, kSS_no, kSS_fz, kSS_ow, kSS_pl, z1, z2, z3, z4, z5, z6, z7, z8, z9, z10, z11, z12, z13, z14, z15, z16, z17, z18, z19, z20, ixF_lst0, ixF_lst1, ixF_lst2, ixF_lst3, ixF_lstm, ixF_tup0, ixF_tup1, ixF_tup2, ixF_tup3, ixF_tupm, ixF_rol0, ixF_rol1, ixF_rol2, ixF_rol3, ixF_rolm, setF_0, setF_1, setF_2, setF_3, putRv_val, putRv_new, putRv_bor, noIo_no, noIo_fz, noIo_ow, mAsg_ap, kAsg_ap, gNm_ap, gTp_ap, gsNil_ap, gsCons_ap, mSt_ap, kSt_val, kSt_new, kSt_bor, mPNil_ap, mPCons_ap, kPC1_ap, mPar_ap, kPar_ap, putN_nil, putN_cons, mAug_ap, kAug_fz, kAug1_ap, mSetIx_ap, kIx_ap, kIx1_some, kIx2_ap, kIx3_some, kIx5_some, kIx4_some, setF_ok, mTurn_ap, kTurn_nx, kTurn_ct, kTurn_bk, kTurn_rt, kWh_t, kWh_f, forF_nil, kFor_some, semFn_ap, kFn_rt, kFn_nx, plain_fz, plain_io, mItems_ap, kIt_val, kIt_new, kIt_bor, kItB_fz, kItB_ow, kItB_io, kSrc_some, items_tup, items_lst, items_rol, mRng_ap, kRn_ap, kR_some, plainArg, val, new, negF, notF, lenF, absF, intF, boolF, max2F, min2F, tupleF, listF, fI, fI0, slF, isL, Rz.rv, eq_self, List.getElem?_cons_succ, List.getElem?_cons_zero, List.set_cons_succ, List.set_cons_zero, Option.map_some, Option.map_none, Option.bind_some, decide_true, decide_false, decide_not, Bool.not_true, Bool.not_false, Bool.true_and, Bool.and_true, Bool.false_and, Bool.and_false, Bool.true_or, Bool.or_true, Bool.false_or, Bool.or_false, List.nil_append, List.cons_append, List.append_nil, List.length_cons, List.length_nil, List.length_append, List.length_map, List.replicate_succ, List.replicate_zero, List.all_cons, List.all_nil, if_true, if_false, ite_true, ite_false, Nat.sub_self, Nat.reduceAdd, Nat.reduceSub, Nat.reduceLeDiff, Nat.reduceLT, List.take_succ_cons, List.take_zero, true_and, and_true, not_true, not_false_eq_true, and_self, List.nodup_nil, List.nodup_cons, List.mem_cons, List.not_mem_nil, or_false, false_or, List.map_cons, List.map_nil, List.map_append, Bool.decide_eq_true, Nat.zero_le, Bool.cond_true, Bool.cond_false, ↓reduceIte, reduceCtorEq, Int.reduceLT, Int.reduceLE, Int.reduceNeg, Int.reduceAdd, Int.reduceMul, Int.reduceSub, Int.reduceEq, Nat.reduceEqDiff, Nat.zero_add, id, s_is_within, b_is_within, w, codeB, h1]
  | _ =>
    simp only at w
    simp -implicitDefEqProofs only [kR_r1, kR_r2, kR_r3d, intsD, mFor_ap, kForS_ap, addF_ii, addF_tt, addF_ll, addF_ss, mulF_ii, mulF_tt, mulF_ll, subF_ii, ltF_ii, leF_ii, gtF_ii, geF_ii, modF_ii, divF_ii, powF_ii, cutD_lo, cutD_hi, cutD_mid, cutD_m1, mYes_ap, truD, isi_set_int, isi_set_bool, isi_set_tuple, isi_set_list, isi_set_str, isi_set_dict, mLc_ap, allF_f, anyF_f, isi_non_int, isi_bl_int, isi_int_int, isi_str_int, isi_tup_int, isi_lst_int, isi_dK_int, isi_dT_int, isi_non_bool, isi_bl_bool, isi_int_bool, isi_str_bool, isi_tup_bool, isi_lst_bool, isi_dK_bool, isi_dT_bool, isi_non_tuple, isi_bl_tuple, isi_int_tuple, isi_str_tuple, isi_tup_tuple, isi_lst_tuple, isi_dK_tuple, isi_dT_tuple, isi_non_list, isi_bl_list, isi_int_list, isi_str_list, isi_tup_list, isi_lst_list, isi_dK_list, isi_dT_list, isi_non_str, isi_bl_str, isi_int_str, isi_str_str, isi_tup_str, isi_lst_str, isi_dK_str, isi_dT_str, isi_non_dict, isi_bl_dict, isi_int_dict, isi_str_dict, isi_tup_dict, isi_lst_dict, isi_dK_dict, isi_dT_dict, eqF_int, neF_int, eqF_bl, neF_bl, eqF_T, neF_T, eqF_Tm, neF_Tm, bndR_ok, bndR_none, bnd_ap, ret_ap, stuck_ap, mVar_ap, kVar_fz, kVar_ow, kVar_io, mC_ap, content_val, content_new, content_bor, slD_fz, slD_ow, slD_io, rv_f, rv_t, val_eq, new_eq, kRz_some, kRz_none, kP1_some, prim1_ap, kP2_some, prim2_ap, mBin_ap, kBin_ap, kBin2_ap, mUn_ap, kUn_ap, mTest_ap, kTest_ap, mTruth_ap, kTruth_ap, kTru_some, mNotT_ap, kNot_ap, mAndT_ap, mOrT_ap, kAnd_t, kAnd_f, kOr_t, kOr_f, mIf_ap, mIte_ap, kIf_t, kIf_f, mAndV_ap, mOrV_ap, kAndV_t, kAndV_f, kOrV_t, kOrV_f, mChain_ap, kCh1_ap, kCh2_ap, kCh3_ap, kLink_t, kLink_f, mChain3_ap, kC31_ap, kC32_ap, settle_val, settle_new, settle_bor, kSl_fz, kSl_ow, kOk_some, mD_ap, kD_ap, mCons_ap, kCons1_ap, kCons2_ap, mNil_ap, mStar_ap, kStar_ap, kStar1_some, kStar2_ap, mTup_ap, mLst_ap, kTup_ok, kLst_ok, mDict0_ap, mNoPart_ap, mPart_ap, kPart_ap, mSl_ap, kS1_ap, kS2_ap, kS3_ap, kS4_some, mRNil_ap, mRCons_ap, kR1_ap, kR2_ap, contents_nil, contents_cons, kCts_some, mCallB_ap, kCB_ap, kCB1_some, mArg_ap, kArg_f, kArg_val, kArg_new, kArg_bor, kArB_ow, kArB_io, mANil_ap, mACons_ap, kA1_ap, kA2_ap, mCall_ap, kCall_ap, kCall1_some, kFin_ok, owned_ow, owned_io, owned_fz, slsOf_nil, slsOf_pl, slsOf_tp, slsOf_ob, kOb_some, back_nil, back_pl, back_tp, back_ob, obs_nil, obs_pl, obs_tp, obs_ob, tps_nil, tps_pl, tps_tp, tps_ob, setOwn_ap, kSO_ow, kSO_io, mMut_ap, kMut0_some, kMut_some, mHas_ap, kHas_lst, mAppend_ap, kApp_ap, mPop_ap, mExtend_ap, kExt_ap, kExt1_some, appF_ok, extF_ok, popF_snoc, mSeq_ap, kSeq_nx, kSeq_rt, kSeq_bk, kSeq_ct, mSkip_ap, mBrk_ap, mCnt_ap, mExpr_ap, kDrop_ap, mRet_ap, kRet_val, kRet_new, kRet_bor, kRetB_fz, kRetB_ow, mRetN_ap, kNx_some, mSet_ap, kSet_ap, setSl_ap, kSS_no, kSS_fz, kSS_ow, kSS_pl, z1, z2, z3, z4, z5, z6, z7, z8, z9, z10, z11, z12, z13, z14, z15, z16, z17, z18, z19, z20, ixF_lst0, ixF_lst1, ixF_lst2, ixF_lst3, ixF_lstm, ixF_tup0, ixF_tup1, ixF_tup2, ixF_tup3, ixF_tupm, ixF_rol0, ixF_rol1, ixF_rol2, ixF_rol3, ixF_rolm, setF_0, setF_1, setF_2, setF_3, putRv_val, putRv_new, putRv_bor, noIo_no, noIo_fz, noIo_ow, mAsg_ap, kAsg_ap, gNm_ap, gTp_ap, gsNil_ap, gsCons_ap, mSt_ap, kSt_val, kSt_new, kSt_bor, mPNil_ap, mPCons_ap, kPC1_ap, mPar_ap, kPar_ap, putN_nil, putN_cons, mAug_ap, kAug_fz, kAug1_ap, mSetIx_ap, kIx_ap, kIx1_some, kIx2_ap, kIx3_some, kIx5_some, kIx4_some, setF_ok, mTurn_ap, kTurn_nx, kTurn_ct, kTurn_bk, kTurn_rt, kWh_t, kWh_f, forF_nil, kFor_some, semFn_ap, kFn_rt, kFn_nx, plain_fz, plain_io, mItems_ap, kIt_val, kIt_new, kIt_bor, kItB_fz, kItB_ow, kItB_io, kSrc_some, items_tup, items_lst, items_rol, mRng_ap, kRn_ap, kR_some, plainArg, val, new, negF, notF, lenF, absF, intF, boolF, max2F, min2F, tupleF, listF, fI, fI0, slF, isL, Rz.rv, eq_self, List.getElem?_cons_succ, List.getElem?_cons_zero, List.set_cons_succ, List.set_cons_zero, Option.map_some, Option.map_none, Option.bind_some, decide_true, decide_false, decide_not, Bool.not_true, Bool.not_false, Bool.true_and, Bool.and_true, Bool.false_and, Bool.and_false, Bool.true_or, Bool.or_true, Bool.false_or, Bool.or_false, List.nil_append, List.cons_append, List.append_nil, List.length_cons, List.length_nil, List.length_append, List.length_map, List.replicate_succ, List.replicate_zero, List.all_cons, List.all_nil, if_true, if_false, ite_true, ite_false, Nat.sub_self, Nat.reduceAdd, Nat.reduceSub, Nat.reduceLeDiff, Nat.reduceLT, List.take_succ_cons, List.take_zero, true_and, and_true, not_true, not_false_eq_true, and_self, List.nodup_nil, List.nodup_cons, List.mem_cons, List.not_mem_nil, or_false, false_or, List.map_cons, List.map_nil, List.map_append, Bool.decide_eq_true, Nat.zero_le, Bool.cond_true, Bool.cond_false, ↓reduceIte, reduceCtorEq, Int.reduceLT, Int.reduceLE, Int.reduceNeg, Int.reduceAdd, Int.reduceMul, Int.reduceSub, Int.reduceEq, Nat.reduceEqDiff, Nat.zero_add, id, s_is_within, b_is_within, w, codeB]
theorem codes_int : ∀ ds : List D, ds.all codeB = true → ∃ t : List Int, ds = t.map .int ∧ ∀ c ∈ t, -1 ≤ c ∧ c ≤ 1000
  | [], _ => ⟨[], rfl, nofun⟩
  | d :: ds, h => by
    have h' := Bool.and_eq_true_iff.mp h
    obtain ⟨t, rfl, ht⟩ := codes_int ds h'.2
    cases d with
    | int i =>
      refine ⟨i :: t, rfl, fun c hc => ?_⟩
      rcases List.mem_cons.mp hc with rfl | hc
      · simpa [codeB] using h'.1
      · exact ht c hc
    | _ => cases h'.1
theorem shaped_loop (T0 : D) : ∀ (t : List Int) (k : Nat) (i : Int) (s2 : Sl), i = k → isPl s2 = true →
    (shp k t = false ∧ ∃ s1' s2', forF (gNm 2) w_is_shaped_1 (t.map .int) [.fz T0, .fz (.int i), s2] = some (.ok (.rt (false, .bl false)) [.fz T0, s1', s2'])) ∨
    ∃ k' s2', shp k t = decide (k' = (0 : Int)) ∧ forF (gNm 2) w_is_shaped_1 (t.map .int) [.fz T0, .fz (.int i), s2] = some (.ok .nx [.fz T0, .fz (.int k'), s2'])
  | [], k, i, s2, e, h => .inr ⟨i, s2, by cases k with | zero => simp [shp, e] | succ k => simp [shp, e]; omega, rfl⟩
  | c :: t, k, i, s2, e, h => by
    have n2 := noIo_pl h
    rw [List.map_cons, forF_cons]
    by_cases k0 : i = 0
    · refine .inl ⟨by have : k = 0 := by omega
                      subst this; rfl, .fz (.int i), .fz (.int c), ?_⟩
      simp -implicitDefEqProofs only [kR_r1, kR_r2, kR_r3d, intsD, mFor_ap, kForS_ap, addF_ii, addF_tt, addF_ll, addF_ss, mulF_ii, mulF_tt, mulF_ll, subF_ii, ltF_ii, leF_ii, gtF_ii, geF_ii, modF_ii, divF_ii, powF_ii, cutD_lo, cutD_hi, cutD_mid, cutD_m1, mYes_ap, truD, isi_set_int, isi_set_bool, isi_set_tuple, isi_set_list, isi_set_str, isi_set_dict, mLc_ap, allF_f, anyF_f, isi_non_int, isi_bl_int, isi_int_int, isi_str_int, isi_tup_int, isi_lst_int, isi_dK_int, isi_dT_int, isi_non_bool, isi_bl_bool, isi_int_bool, isi_str_bool, isi_tup_bool, isi_lst_bool, isi_dK_bool, isi_dT_bool, isi_non_tuple, isi_bl_tuple, isi_int_tuple, isi_str_tuple, isi_tup_tuple, isi_lst_tuple, isi_dK_tuple, isi_dT_tuple, isi_non_list, isi_bl_list, isi_int_list, isi_str_list, isi_tup_list, isi_lst_list, isi_dK_list, isi_dT_list, isi_non_str, isi_bl_str, isi_int_str, isi_str_str, isi_tup_str, isi_lst_str, isi_dK_str, isi_dT_str, isi_non_dict, isi_bl_dict, isi_int_dict, isi_str_dict, isi_tup_dict, isi_lst_dict, isi_dK_dict, isi_dT_dict, eqF_int, neF_int, eqF_bl, neF_bl, eqF_T, neF_T, eqF_Tm, neF_Tm, bndR_ok, bndR_none, bnd_ap, ret_ap, stuck_ap, mVar_ap, kVar_fz, kVar_ow, kVar_io, mC_ap, content_val, content_new, content_bor, slD_fz, slD_ow, slD_io, rv_f, rv_t, val_eq, new_eq, kRz_some, kRz_none, kP1_some, prim1_ap, kP2_some, prim2_ap, mBin_ap, kBin_ap, kBin2_ap, mUn_ap, kUn_ap, mTest_ap, kTest_ap, mTruth_ap, kTruth_ap, kTru_some, mNotT_ap, kNot_ap, mAndT_ap, mOrT_ap, kAnd_t, kAnd_f, kOr_t, kOr_f, mIf_ap, mIte_ap, kIf_t, kIf_f, mAndV_ap, mOrV_ap, kAndV_t, kAndV_f, kOrV_t, kOrV_f, mChain_ap, kCh1_ap, kCh2_ap, kCh3_ap, kLink_t, kLink_f, mChain3_ap, kC31_ap, kC32_ap, settle_val, settle_new, settle_bor, kSl_fz, kSl_ow, kOk_some, mD_ap, kD_ap, mCons_ap, kCons1_ap, kCons2_ap, mNil_ap, mStar_ap, kStar_ap, kStar1_some, kStar2_ap, mTup_ap, mLst_ap, kTup_ok, kLst_ok, mDict0_ap, mNoPart_ap, mPart_ap, kPart_ap, mSl_ap, kS1_ap, kS2_ap, kS3_ap, kS4_some, mRNil_ap, mRCons_ap, kR1_ap, kR2_ap, contents_nil, contents_cons, kCts_some, mCallB_ap, kCB_ap, kCB1_some, mArg_ap, kArg_f, kArg_val, kArg_new, kArg_bor, kArB_ow, kArB_io, mANil_ap, mACons_ap, kA1_ap, kA2_ap, mCall_ap, kCall_ap, kCall1_some, kFin_ok, owned_ow, owned_io, owned_fz, slsOf_nil, slsOf_pl, slsOf_tp, slsOf_ob, kOb_some, back_nil, back_pl, back_tp, back_ob, obs_nil, obs_pl, obs_tp, obs_ob, tps_nil, tps_pl, tps_tp, tps_ob, setOwn_ap, kSO_ow, kSO_io, mMut_ap, kMut0_some, kMut_some, mHas_ap, kHas_lst, mAppend_ap, kApp_ap, mPop_ap, mExtend_ap, kExt_ap, kExt1_some, appF_ok, extF_ok, popF_snoc, mSeq_ap, kSeq_nx, kSeq_rt, kSeq_bk, kSeq_ct, mSkip_ap, mBrk_ap, mCnt_ap, mExpr_ap, kDrop_ap, mRet_ap, kRet_val, kRet_new, kRet_bor, kRetB_fz, kRetB_ow, mRetN_ap, kNx_some, mSet_ap, kSet_ap, setSl_ap, kSS_no, kSS_fz, kSS_ow, kSS_pl, z1, z2, z3, z4, z5, z6, z7, z8, z9, z10, z11, z12, z13, z14, z15, z16, z17, z18, z19, z20, ixF_lst0, ixF_lst1, ixF_lst2, ixF_lst3, ixF_lstm, ixF_tup0, ixF_tup1, ixF_tup2, ixF_tup3, ixF_tupm, ixF_rol0, ixF_rol1, ixF_rol2, ixF_rol3, ixF_rolm, setF_0, setF_1, setF_2, setF_3, putRv_val, putRv_new, putRv_bor, noIo_no, noIo_fz, noIo_ow, mAsg_ap, kAsg_ap, gNm_ap, gTp_ap, gsNil_ap, gsCons_ap, mSt_ap, kSt_val, kSt_new, kSt_bor, mPNil_ap, mPCons_ap, kPC1_ap, mPar_ap, kPar_ap, putN_nil, putN_cons, mAug_ap, kAug_fz, kAug1_ap, mSetIx_ap, kIx_ap, kIx1_some, kIx2_ap, kIx3_some, kIx5_some, kIx4_some, setF_ok, mTurn_ap, kTurn_nx, kTurn_ct, kTurn_bk, kTurn_rt, kWh_t, kWh_f, forF_nil, kFor_some, semFn_ap, kFn_rt, kFn_nx, plain_fz, plain_io, mItems_ap, kIt_val, kIt_new, kIt_bor, kItB_fz, kItB_ow, kItB_io, kSrc_some, items_tup, items_lst, items_rol, mRng_ap, kRn_ap, kR_some, plainArg, val, new, negF, notF, lenF, absF, intF, boolF, max2F, min2F, tupleF, listF, fI, fI0, slF, isL, Rz.rv, eq_self, List.getElem?_cons_succ, List.getElem?_cons_zero, List.set_cons_succ, List.set_cons_zero, Option.map_some, Option.map_none, Option.bind_some, decide_true, decide_false, decide_not, Bool.not_true, Bool.not_false, Bool.true_and, Bool.and_true, Bool.false_and, Bool.and_false, Bool.true_or, Bool.or_true, Bool.false_or, Bool.or_false, List.nil_append, List.cons_append, List.append_nil, List.length_cons, List.length_nil, List.length_append, List.length_map, List.replicate_succ, List.replicate_zero, List.all_cons, List.all_nil, if_true, if_false, ite_true, ite_false, Nat.sub_self, Nat.reduceAdd, Nat.reduceSub, Nat.reduceLeDiff, Nat.reduceLT, List.take_succ_cons, List.take_zero, true_and, and_true, not_true, not_false_eq_true, and_self, List.nodup_nil, List.nodup_cons, List.mem_cons, List.not_mem_nil, or_false, false_or, List.map_cons, List.map_nil, List.map_append, Bool.decide_eq_true, Nat.zero_le, Bool.cond_true, Bool.cond_false, ↓reduceIte, reduceCtorEq, Int.reduceLT, Int.reduceLE, Int.reduceNeg, Int.reduceAdd, Int.reduceMul, Int.reduceSub, Int.reduceEq, Nat.reduceEqDiff, Nat.zero_add, id, n2, w_is_shaped_1, k0]
    · obtain ⟨k1, rfl⟩ : ∃ k1, k = k1 + 1 := ⟨k - 1, by omega⟩
      by_cases c0 : c = 0
      · rw [show shp (k1 + 1) (c :: t) = shp (k1 + 2) t by simp [shp, c0]]
        have ih := shaped_loop T0 t (k1 + 2) (i + 1) (.fz (.int c)) (by omega) rfl
        simp -implicitDefEqProofs only [kR_r1, kR_r2, kR_r3d, intsD, mFor_ap, kForS_ap, addF_ii, addF_tt, addF_ll, addF_ss, mulF_ii, mulF_tt, mulF_ll, subF_ii, ltF_ii, leF_ii, gtF_ii, geF_ii, modF_ii, divF_ii, powF_ii, cutD_lo, cutD_hi, cutD_mid, cutD_m1, mYes_ap, truD, isi_set_int, isi_set_bool, isi_set_tuple, isi_set_list, isi_set_str, isi_set_dict, mLc_ap, allF_f, anyF_f, isi_non_int, isi_bl_int, isi_int_int, isi_str_int, isi_tup_int, isi_lst_int, isi_dK_int, isi_dT_int, isi_non_bool, isi_bl_bool, isi_int_bool, isi_str_bool, isi_tup_bool, isi_lst_bool, isi_dK_bool, isi_dT_bool, isi_non_tuple, isi_bl_tuple, isi_int_tuple, isi_str_tuple, isi_tup_tuple, isi_lst_tuple, isi_dK_tuple, isi_dT_tuple, isi_non_list, isi_bl_list, isi_int_list, isi_str_list, isi_tup_list, isi_lst_list, isi_dK_list, isi_dT_list, isi_non_str, isi_bl_str, isi_int_str, isi_str_str, isi_tup_str, isi_lst_str, isi_dK_str, isi_dT_str, isi_non_dict, isi_bl_dict, isi_int_dict, isi_str_dict, isi_tup_dict, isi_lst_dict, isi_dK_dict, isi_dT_dict, eqF_int, neF_int, eqF_bl, neF_bl, eqF_T, neF_T, eqF_Tm, neF_Tm, bndR_ok, bndR_none, bnd_ap, ret_ap, stuck_ap, mVar_ap, kVar_fz, kVar_ow, kVar_io, mC_ap, content_val, content_new, content_bor, slD_fz, slD_ow, slD_io, rv_f, rv_t, val_eq, new_eq, kRz_some, kRz_none, kP1_some, prim1_ap, kP2_some, prim2_ap, mBin_ap, kBin_ap, kBin2_ap, mUn_ap, kUn_ap, mTest_ap, kTest_ap, mTruth_ap, kTruth_ap, kTru_some, mNotT_ap, kNot_ap, mAndT_ap, mOrT_ap, kAnd_t, kAnd_f, kOr_t, kOr_f, mIf_ap, mIte_ap, kIf_t, kIf_f, mAndV_ap, mOrV_ap, kAndV_t, kAndV_f, kOrV_t, kOrV_f, mChain_ap, kCh1_ap, kCh2_ap, kCh3_ap, kLink_t, kLink_f, mChain3_ap, kC31_ap, kC32_ap, settle_val, settle_new, settle_bor, kSl_fz, kSl_ow, kOk_some, mD_ap, kD_ap, mCons_ap, kCons1_ap, kCons2_ap, mNil_ap, mStar_ap, kStar_ap, kStar1_some, kStar2_ap, mTup_ap, mLst_ap, kTup_ok, kLst_ok, mDict0_ap, mNoPart_ap, mPart_ap, kPart_ap, mSl_ap, kS1_ap, kS2_ap, kS3_ap, kS4_some, mRNil_ap, mRCons_ap, kR1_ap, kR2_ap, contents_nil, contents_cons, kCts_some, mCallB_ap, kCB_ap, kCB1_some, mArg_ap, kArg_f, kArg_val, kArg_new, kArg_bor, kArB_ow, kArB_io, mANil_ap, mACons_ap, kA1_ap, kA2_ap, mCall_ap, kCall_ap, kCall1_some, kFin_ok, owned_ow, owned_io, owned_fz, slsOf_nil, slsOf_pl, slsOf_tp, slsOf_ob, kOb_some, back_nil, back_pl, back_tp, back_ob, obs_nil, obs_pl, obs_tp, obs_ob, tps_nil, tps_pl, tps_tp, tps_ob, setOwn_ap, kSO_ow, kSO_io, mMut_ap, kMut0_some, kMut_some, mHas_ap, kHas_lst, mAppend_ap, kApp_ap, mPop_ap, mExtend_ap, kExt_ap, kExt1_some, appF_ok, extF_ok, popF_snoc, mSeq_ap, kSeq_nx, kSeq_rt, kSeq_bk, kSeq_ct, mSkip_ap, mBrk_ap, mCnt_ap, mExpr_ap, kDrop_ap, mRet_ap, kRet_val, kRet_new, kRet_bor, kRetB_fz, kRetB_ow, mRetN_ap, kNx_some, mSet_ap, kSet_ap, setSl_ap, kSS_no, kSS_fz, kSS_ow, kSS_pl, z1, z2, z3, z4, z5, z6, z7, z8, z9, z10, z11, z12, z13, z14, z15, z16, z17, z18, z19, z20, ixF_lst0, ixF_lst1, ixF_lst2, ixF_lst3, ixF_lstm, ixF_tup0, ixF_tup1, ixF_tup2, ixF_tup3, ixF_tupm, ixF_rol0, ixF_rol1, ixF_rol2, ixF_rol3, ixF_rolm, setF_0, setF_1, setF_2, setF_3, putRv_val, putRv_new, putRv_bor, noIo_no, noIo_fz, noIo_ow, mAsg_ap, kAsg_ap, gNm_ap, gTp_ap, gsNil_ap, gsCons_ap, mSt_ap, kSt_val, kSt_new, kSt_bor, mPNil_ap, mPCons_ap, kPC1_ap, mPar_ap, kPar_ap, putN_nil, putN_cons, mAug_ap, kAug_fz, kAug1_ap, mSetIx_ap, kIx_ap, kIx1_some, kIx2_ap, kIx3_some, kIx5_some, kIx4_some, setF_ok, mTurn_ap, kTurn_nx, kTurn_ct, kTurn_bk, kTurn_rt, kWh_t, kWh_f, forF_nil, kFor_some, semFn_ap, kFn_rt, kFn_nx, plain_fz, plain_io, mItems_ap, kIt_val, kIt_new, kIt_bor, kItB_fz, kItB_ow, kItB_io, kSrc_some, items_tup, items_lst, items_rol, mRng_ap, kRn_ap, kR_some, plainArg, val, new, negF, notF, lenF, absF, intF, boolF, max2F, min2F, tupleF, listF, fI, fI0, slF, isL, Rz.rv, eq_self, List.getElem?_cons_succ, List.getElem?_cons_zero, List.set_cons_succ, List.set_cons_zero, Option.map_some, Option.map_none, Option.bind_some, decide_true, decide_false, decide_not, Bool.not_true, Bool.not_false, Bool.true_and, Bool.and_true, Bool.false_and, Bool.and_false, Bool.true_or, Bool.or_true, Bool.false_or, Bool.or_false, List.nil_append, List.cons_append, List.append_nil, List.length_cons, List.length_nil, List.length_append, List.length_map, List.replicate_succ, List.replicate_zero, List.all_cons, List.all_nil, if_true, if_false, ite_true, ite_false, Nat.sub_self, Nat.reduceAdd, Nat.reduceSub, Nat.reduceLeDiff, Nat.reduceLT, List.take_succ_cons, List.take_zero, true_and, and_true, not_true, not_false_eq_true, and_self, List.nodup_nil, List.nodup_cons, List.mem_cons, List.not_mem_nil, or_false, false_or, List.map_cons, List.map_nil, List.map_append, Bool.decide_eq_true, Nat.zero_le, Bool.cond_true, Bool.cond_false, ↓reduceIte, reduceCtorEq, Int.reduceLT, Int.reduceLE, Int.reduceNeg, Int.reduceAdd, Int.reduceMul, Int.reduceSub, Int.reduceEq, Nat.reduceEqDiff, Nat.zero_add, id, n2, w_is_shaped_1, k0, c0]
        subst c0
        exact ih
      · by_cases c1 : 0 < c
        · rw [show shp (k1 + 1) (c :: t) = shp k1 t by simp [shp, c0, c1]]
          have ih := shaped_loop T0 t k1 (i - 1) (.fz (.int c)) (by omega) rfl
          simp -implicitDefEqProofs only [kR_r1, kR_r2, kR_r3d, intsD, mFor_ap, kForS_ap, addF_ii, addF_tt, addF_ll, addF_ss, mulF_ii, mulF_tt, mulF_ll, subF_ii, ltF_ii, leF_ii, gtF_ii, geF_ii, modF_ii, divF_ii, powF_ii, cutD_lo, cutD_hi, cutD_mid, cutD_m1, mYes_ap, truD, isi_set_int, isi_set_bool, isi_set_tuple, isi_set_list, isi_set_str, isi_set_dict, mLc_ap, allF_f, anyF_f, isi_non_int, isi_bl_int, isi_int_int, isi_str_int, isi_tup_int, isi_lst_int, isi_dK_int, isi_dT_int, isi_non_bool, isi_bl_bool, isi_int_bool, isi_str_bool, isi_tup_bool, isi_lst_bool, isi_dK_bool, isi_dT_bool, isi_non_tuple, isi_bl_tuple, isi_int_tuple, isi_str_tuple, isi_tup_tuple, isi_lst_tuple, isi_dK_tuple, isi_dT_tuple, isi_non_list, isi_bl_list, isi_int_list, isi_str_list, isi_tup_list, isi_lst_list, isi_dK_list, isi_dT_list, isi_non_str, isi_bl_str, isi_int_str, isi_str_str, isi_tup_str, isi_lst_str, isi_dK_str, isi_dT_str, isi_non_dict, isi_bl_dict, isi_int_dict, isi_str_dict, isi_tup_dict, isi_lst_dict, isi_dK_dict, isi_dT_dict, eqF_int, neF_int, eqF_bl, neF_bl, eqF_T, neF_T, eqF_Tm, neF_Tm, bndR_ok, bndR_none, bnd_ap, ret_ap, stuck_ap, mVar_ap, kVar_fz, kVar_ow, kVar_io, mC_ap, content_val, content_new, content_bor, slD_fz, slD_ow, slD_io, rv_f, rv_t, val_eq, new_eq, kRz_some, kRz_none, kP1_some, prim1_ap, kP2_some, prim2_ap, mBin_ap, kBin_ap, kBin2_ap, mUn_ap, kUn_ap, mTest_ap, kTest_ap, mTruth_ap, kTruth_ap, kTru_some, mNotT_ap, kNot_ap, mAndT_ap, mOrT_ap, kAnd_t, kAnd_f, kOr_t, kOr_f, mIf_ap, mIte_ap, kIf_t, kIf_f, mAndV_ap, mOrV_ap, kAndV_t, kAndV_f, kOrV_t, kOrV_f, mChain_ap, kCh1_ap, kCh2_ap, kCh3_ap, kLink_t, kLink_f, mChain3_ap, kC31_ap, kC32_ap, settle_val, settle_new, settle_bor, kSl_fz, kSl_ow, kOk_some, mD_ap, kD_ap, mCons_ap, kCons1_ap, kCons2_ap, mNil_ap, mStar_ap, kStar_ap, kStar1_some, kStar2_ap, mTup_ap, mLst_ap, kTup_ok, kLst_ok, mDict0_ap, mNoPart_ap, mPart_ap, kPart_ap, mSl_ap, kS1_ap, kS2_ap, kS3_ap, kS4_some, mRNil_ap, mRCons_ap, kR1_ap, kR2_ap, contents_nil, contents_cons, kCts_some, mCallB_ap, kCB_ap, kCB1_some, mArg_ap, kArg_f, kArg_val, kArg_new, kArg_bor, kArB_ow, kArB_io, mANil_ap, mACons_ap, kA1_ap, kA2_ap, mCall_ap, kCall_ap, kCall1_some, kFin_ok, owned_ow, owned_io, owned_fz, slsOf_nil, slsOf_pl, slsOf_tp, slsOf_ob, kOb_some, back_nil, back_pl, back_tp, back_ob, obs_nil, obs_pl, obs_tp, obs_ob, tps_nil, tps_pl, tps_tp, tps_ob, setOwn_ap, kSO_ow, kSO_io, mMut_ap, kMut0_some, kMut_some, mHas_ap, kHas_lst, mAppend_ap, kApp_ap, mPop_ap, mExtend_ap, kExt_ap, kExt1_some, appF_ok, extF_ok, popF_snoc, mSeq_ap, kSeq_nx, kSeq_rt, kSeq_bk, kSeq_ct, mSkip_ap, mBrk_ap, mCnt_ap, mExpr_ap, kDrop_ap, mRet_ap, kRet_val, kRet_new, kRet_bor, kRetB_fz, kRetB_ow, mRetN_ap, kNx_some, mSet_ap, kSet_ap, setSl_ap, kSS_no, kSS_fz, kSS_ow, kSS_pl, z1, z2, z3, z4, z5, z6, z7, z8, z9, z10, z11, z12, z13, z14, z15, z16, z17, z18, z19, z20, ixF_lst0, ixF_lst1, ixF_lst2, ixF_lst3, ixF_lstm, ixF_tup0, ixF_tup1, ixF_tup2, ixF_tup3, ixF_tupm, ixF_rol0, ixF_rol1, ixF_rol2, ixF_rol3, ixF_rolm, setF_0, setF_1, setF_2, setF_3, putRv_val, putRv_new, putRv_bor, noIo_no, noIo_fz, noIo_ow, mAsg_ap, kAsg_ap, gNm_ap, gTp_ap, gsNil_ap, gsCons_ap, mSt_ap, kSt_val, kSt_new, kSt_bor, mPNil_ap, mPCons_ap, kPC1_ap, mPar_ap, kPar_ap, putN_nil, putN_cons, mAug_ap, kAug_fz, kAug1_ap, mSetIx_ap, kIx_ap, kIx1_some, kIx2_ap, kIx3_some, kIx5_some, kIx4_some, setF_ok, mTurn_ap, kTurn_nx, kTurn_ct, kTurn_bk, kTurn_rt, kWh_t, kWh_f, forF_nil, kFor_some, semFn_ap, kFn_rt, kFn_nx, plain_fz, plain_io, mItems_ap, kIt_val, kIt_new, kIt_bor, kItB_fz, kItB_ow, kItB_io, kSrc_some, items_tup, items_lst, items_rol, mRng_ap, kRn_ap, kR_some, plainArg, val, new, negF, notF, lenF, absF, intF, boolF, max2F, min2F, tupleF, listF, fI, fI0, slF, isL, Rz.rv, eq_self, List.getElem?_cons_succ, List.getElem?_cons_zero, List.set_cons_succ, List.set_cons_zero, Option.map_some, Option.map_none, Option.bind_some, decide_true, decide_false, decide_not, Bool.not_true, Bool.not_false, Bool.true_and, Bool.and_true, Bool.false_and, Bool.and_false, Bool.true_or, Bool.or_true, Bool.false_or, Bool.or_false, List.nil_append, List.cons_append, List.append_nil, List.length_cons, List.length_nil, List.length_append, List.length_map, List.replicate_succ, List.replicate_zero, List.all_cons, List.all_nil, if_true, if_false, ite_true, ite_false, Nat.sub_self, Nat.reduceAdd, Nat.reduceSub, Nat.reduceLeDiff, Nat.reduceLT, List.take_succ_cons, List.take_zero, true_and, and_true, not_true, not_false_eq_true, and_self, List.nodup_nil, List.nodup_cons, List.mem_cons, List.not_mem_nil, or_false, false_or, List.map_cons, List.map_nil, List.map_append, Bool.decide_eq_true, Nat.zero_le, Bool.cond_true, Bool.cond_false, ↓reduceIte, reduceCtorEq, Int.reduceLT, Int.reduceLE, Int.reduceNeg, Int.reduceAdd, Int.reduceMul, Int.reduceSub, Int.reduceEq, Nat.reduceEqDiff, Nat.zero_add, id, n2, w_is_shaped_1, k0, c0, c1]
          exact ih
        · rw [show shp (k1 + 1) (c :: t) = shp (k1 + 1) t by simp [shp, c0, c1]]
          have ih := shaped_loop T0 t (k1 + 1) i (.fz (.int c)) e rfl
          simp -implicitDefEqProofs only [kR_r1, kR_r2, kR_r3d, intsD, mFor_ap, kForS_ap, addF_ii, addF_tt, addF_ll, addF_ss, mulF_ii, mulF_tt, mulF_ll, subF_ii, ltF_ii, leF_ii, gtF_ii, geF_ii, modF_ii, divF_ii, powF_ii, cutD_lo, cutD_hi, cutD_mid, cutD_m1, mYes_ap, truD, isi_set_int, isi_set_bool, isi_set_tuple, isi_set_list, isi_set_str, isi_set_dict, mLc_ap, allF_f, anyF_f, isi_non_int, isi_bl_int, isi_int_int, isi_str_int, isi_tup_int, isi_lst_int, isi_dK_int, isi_dT_int, isi_non_bool, isi_bl_bool, isi_int_bool, isi_str_bool, isi_tup_bool, isi_lst_bool, isi_dK_bool, isi_dT_bool, isi_non_tuple, isi_bl_tuple, isi_int_tuple, isi_str_tuple, isi_tup_tuple, isi_lst_tuple, isi_dK_tuple, isi_dT_tuple, isi_non_list, isi_bl_list, isi_int_list, isi_str_list, isi_tup_list, isi_lst_list, isi_dK_list, isi_dT_list, isi_non_str, isi_bl_str, isi_int_str, isi_str_str, isi_tup_str, isi_lst_str, isi_dK_str, isi_dT_str, isi_non_dict, isi_bl_dict, isi_int_dict, isi_str_dict, isi_tup_dict, isi_lst_dict, isi_dK_dict, isi_dT_dict, eqF_int, neF_int, eqF_bl, neF_bl, eqF_T, neF_T, eqF_Tm, neF_Tm, bndR_ok, bndR_none, bnd_ap, ret_ap, stuck_ap, mVar_ap, kVar_fz, kVar_ow, kVar_io, mC_ap, content_val, content_new, content_bor, slD_fz, slD_ow, slD_io, rv_f, rv_t, val_eq, new_eq, kRz_some, kRz_none, kP1_some, prim1_ap, kP2_some, prim2_ap, mBin_ap, kBin_ap, kBin2_ap, mUn_ap, kUn_ap, mTest_ap, kTest_ap, mTruth_ap, kTruth_ap, kTru_some, mNotT_ap, kNot_ap, mAndT_ap, mOrT_ap, kAnd_t, kAnd_f, kOr_t, kOr_f, mIf_ap, mIte_ap, kIf_t, kIf_f, mAndV_ap, mOrV_ap, kAndV_t, kAndV_f, kOrV_t, kOrV_f, mChain_ap, kCh1_ap, kCh2_ap, kCh3_ap, kLink_t, kLink_f, mChain3_ap, kC31_ap, kC32_ap, settle_val, settle_new, settle_bor, kSl_fz, kSl_ow, kOk_some, mD_ap, kD_ap, mCons_ap, kCons1_ap, kCons2_ap, mNil_ap, mStar_ap, kStar_ap, kStar1_some, kStar2_ap, mTup_ap, mLst_ap, kTup_ok, kLst_ok, mDict0_ap, mNoPart_ap, mPart_ap, kPart_ap, mSl_ap, kS1_ap, kS2_ap, kS3_ap, kS4_some, mRNil_ap, mRCons_ap, kR1_ap, kR2_ap, contents_nil, contents_cons, kCts_some, mCallB_ap, kCB_ap, kCB1_some, mArg_ap, kArg_f, kArg_val, kArg_new, kArg_bor, kArB_ow, kArB_io, mANil_ap, mACons_ap, kA1_ap, kA2_ap, mCall_ap, kCall_ap, kCall1_some, kFin_ok, owned_ow, owned_io, owned_fz, slsOf_nil, slsOf_pl, slsOf_tp, slsOf_ob, kOb_some, back_nil, back_pl, back_tp, back_ob, obs_nil, obs_pl, obs_tp, obs_ob, tps_nil, tps_pl, tps_tp, tps_ob, setOwn_ap, kSO_ow, kSO_io, mMut_ap, kMut0_some, kMut_some, mHas_ap, kHas_lst, mAppend_ap, kApp_ap, mPop_ap, mExtend_ap, kExt_ap, kExt1_some, appF_ok, extF_ok, popF_snoc, mSeq_ap, kSeq_nx, kSeq_rt, kSeq_bk, kSeq_ct, mSkip_ap, mBrk_ap, mCnt_ap, mExpr_ap, kDrop_ap, mRet_ap, kRet_val, kRet_new, kRet_bor, kRetB_fz, kRetB_ow, mRetN_ap, kNx_some, mSet_ap, kSet_ap, setSl_ap, kSS_no, kSS_fz, kSS_ow, kSS_pl, z1, z2, z3, z4, z5, z6, z7, z8, z9, z10, z11, z12, z13, z14, z15, z16, z17, z18, z19, z20, ixF_lst0, ixF_lst1, ixF_lst2, ixF_lst3, ixF_lstm, ixF_tup0, ixF_tup1, ixF_tup2, ixF_tup3, ixF_tupm, ixF_rol0, ixF_rol1, ixF_rol2, ixF_rol3, ixF_rolm, setF_0, setF_1, setF_2, setF_3, putRv_val, putRv_new, putRv_bor, noIo_no, noIo_fz, noIo_ow, mAsg_ap, kAsg_ap, gNm_ap, gTp_ap, gsNil_ap, gsCons_ap, mSt_ap, kSt_val, kSt_new, kSt_bor, mPNil_ap, mPCons_ap, kPC1_ap, mPar_ap, kPar_ap, putN_nil, putN_cons, mAug_ap, kAug_fz, kAug1_ap, mSetIx_ap, kIx_ap, kIx1_some, kIx2_ap, kIx3_some, kIx5_some, kIx4_some, setF_ok, mTurn_ap, kTurn_nx, kTurn_ct, kTurn_bk, kTurn_rt, kWh_t, kWh_f, forF_nil, kFor_some, semFn_ap, kFn_rt, kFn_nx, plain_fz, plain_io, mItems_ap, kIt_val, kIt_new, kIt_bor, kItB_fz, kItB_ow, kItB_io, kSrc_some, items_tup, items_lst, items_rol, mRng_ap, kRn_ap, kR_some, plainArg, val, new, negF, notF, lenF, absF, intF, boolF, max2F, min2F, tupleF, listF, fI, fI0, slF, isL, Rz.rv, eq_self, List.getElem?_cons_succ, List.getElem?_cons_zero, List.set_cons_succ, List.set_cons_zero, Option.map_some, Option.map_none, Option.bind_some, decide_true, decide_false, decide_not, Bool.not_true, Bool.not_false, Bool.true_and, Bool.and_true, Bool.false_and, Bool.and_false, Bool.true_or, Bool.or_true, Bool.false_or, Bool.or_false, List.nil_append, List.cons_append, List.append_nil, List.length_cons, List.length_nil, List.length_append, List.length_map, List.replicate_succ, List.replicate_zero, List.all_cons, List.all_nil, if_true, if_false, ite_true, ite_false, Nat.sub_self, Nat.reduceAdd, Nat.reduceSub, Nat.reduceLeDiff, Nat.reduceLT, List.take_succ_cons, List.take_zero, true_and, and_true, not_true, not_false_eq_true, and_self, List.nodup_nil, List.nodup_cons, List.mem_cons, List.not_mem_nil, or_false, false_or, List.map_cons, List.map_nil, List.map_append, Bool.decide_eq_true, Nat.zero_le, Bool.cond_true, Bool.cond_false, ↓reduceIte, reduceCtorEq, Int.reduceLT, Int.reduceLE, Int.reduceNeg, Int.reduceAdd, Int.reduceMul, Int.reduceSub, Int.reduceEq, Nat.reduceEqDiff, Nat.zero_add, id, n2, w_is_shaped_1, k0, c0, c1]
          exact ih
theorem shaped_ok (t : List Int) : s_is_shaped [.fz (.tup (t.map .int))] = some (.ok (false, .bl (shp 1 t)) [.fz (.tup (t.map .int))]) := by
  rcases shaped_loop (.tup (t.map .int)) t 1 1 .no rfl rfl with ⟨h, s1, s2, q⟩ | ⟨k', s2, h, q⟩
  · simp -implicitDefEqProofs only [kR_r1, kR_r2, kR_r3d, intsD, mFor_ap, kForS_ap, addF_ii, addF_tt, addF_ll, addF_ss, mulF_ii, mulF_tt, mulF_ll, subF_ii, ltF_ii, leF_ii, gtF_ii, geF_ii, modF_ii, divF_ii, powF_ii, cutD_lo, cutD_hi, cutD_mid, cutD_m1, mYes_ap, truD, isi_set_int, isi_set_bool, isi_set_tuple, isi_set_list, isi_set_str, isi_set_dict, mLc_ap, allF_f, anyF_f, isi_non_int, isi_bl_int, isi_int_int, isi_str_int, isi_tup_int, isi_lst_int, isi_dK_int, isi_dT_int, isi_non_bool, isi_bl_bool, isi_int_bool, isi_str_bool, isi_tup_bool, isi_lst_bool, isi_dK_bool, isi_dT_bool, isi_non_tuple, isi_bl_tuple, isi_int_tuple, isi_str_tuple, isi_tup_tuple, isi_lst_tuple, isi_dK_tuple, isi_dT_tuple, isi_non_list, isi_bl_list, isi_int_list, isi_str_list, isi_tup_list, isi_lst_list, isi_dK_list, isi_dT_list, isi_non_str, isi_bl_str, isi_int_str, isi_str_str, isi_tup_str, isi_lst_str, isi_dK_str, isi_dT_str, isi_non_dict, isi_bl_dict, isi_int_dict, isi_str_dict, isi_tup_dict, isi_lst_dict, isi_dK_dict, isi_dT_dict, eqF_int, neF_int, eqF_bl, neF_bl, eqF_T, neF_T, eqF_Tm, neF_Tm, bndR_ok, bndR_none, bnd_ap, ret_ap, stuck_ap, mVar_ap, kVar_fz, kVar_ow, kVar_io, mC_ap, content_val, content_new, content_bor, slD_fz, slD_ow, slD_io, rv_f, rv_t, val_eq, new_eq, kRz_some, kRz_none, kP1_some, prim1_ap, kP2_some, prim2_ap, mBin_ap, kBin_ap, kBin2_ap, mUn_ap, kUn_ap, mTest_ap, kTest_ap, mTruth_ap, kTruth_ap, kTru_some, mNotT_ap, kNot_ap, mAndT_ap, mOrT_ap, kAnd_t, kAnd_f, kOr_t, kOr_f, mIf_ap, mIte_ap, kIf_t, kIf_f, mAndV_ap, mOrV_ap, kAndV_t, kAndV_f, kOrV_t, kOrV_f, mChain_ap, kCh1_ap, kCh2_ap, kCh3_ap, kLink_t, kLink_f, mChain3_ap, kC31_ap, kC32_ap, settle_val, settle_new, settle_bor, kSl_fz, kSl_ow, kOk_some, mD_ap, kD_ap, mCons_ap, kCons1_ap, kCons2_ap, mNil_ap, mStar_ap, kStar_ap, kStar1_some, kStar2_ap, mTup_ap, mLst_ap, kTup_ok, kLst_ok, mDict0_ap, mNoPart_ap, mPart_ap, kPart_ap, mSl_ap, kS1_ap, kS2_ap, kS3_ap, kS4_some, mRNil_ap, mRCons_ap, kR1_ap, kR2_ap, contents_nil, contents_cons, kCts_some, mCallB_ap, kCB_ap, kCB1_some, mArg_ap, kArg_f, kArg_val, kArg_new, kArg_bor, kArB_ow, kArB_io, mANil_ap, mACons_ap, kA1_ap, kA2_ap, mCall_ap, kCall_ap, kCall1_some, kFin_ok, owned_ow, owned_io, owned_fz, slsOf_nil, slsOf_pl, slsOf_tp, slsOf_ob, kOb_some, back_nil, back_pl, back_tp, back_ob, obs_nil, obs_pl, obs_tp, obs_ob, tps_nil, tps_pl, tps_tp, tps_ob, setOwn_ap, kSO_ow, kSO_io, mMut_ap, kMut0_some, kMut_some, mHas_ap, kHas_lst, mAppend_ap, kApp_ap, mPop_ap, mExtend_ap, kExt_ap, kExt1_some, appF_ok, extF_ok, popF_snoc, mSeq_ap, kSeq_nx, kSeq_rt, kSeq_bk, kSeq_ct, mSkip_ap, mBrk_ap, mCnt_ap, mExpr_ap, kDrop_ap, mRet_ap, kRet_val, kRet_new, kRet_bor, kRetB_fz, kRetB_ow, mRetN_ap, kNx_some, mSet_ap, kSet_ap, setSl_ap, kSS_no, kSS_fz, kSS_ow, kSS_pl, z1, z2, z3, z4, z5, z6, z7, z8, z9, z10, z11, z12, z13, z14, z15, z16, z17, z18, z19, z20, ixF_lst0, ixF_lst1, ixF_lst2, ixF_lst3, ixF_lstm, ixF_tup0, ixF_tup1, ixF_tup2, ixF_tup3, ixF_tupm, ixF_rol0, ixF_rol1, ixF_rol2, ixF_rol3, ixF_rolm, setF_0, setF_1, setF_2, setF_3, putRv_val, putRv_new, putRv_bor, noIo_no, noIo_fz, noIo_ow, mAsg_ap, kAsg_ap, gNm_ap, gTp_ap, gsNil_ap, gsCons_ap, mSt_ap, kSt_val, kSt_new, kSt_bor, mPNil_ap, mPCons_ap, kPC1_ap, mPar_ap, kPar_ap, putN_nil, putN_cons, mAug_ap, kAug_fz, kAug1_ap, mSetIx_ap, kIx_ap, kIx1_some, kIx2_ap, kIx3_some, kIx5_some, kIx4_some, setF_ok, mTurn_ap, kTurn_nx, kTurn_ct, kTurn_bk, kTurn_rt, kWh_t, kWh_f, forF_nil, kFor_some, semFn_ap, kFn_rt, kFn_nx, plain_fz, plain_io, mItems_ap, kIt_val, kIt_new, kIt_bor, kItB_fz, kItB_ow, kItB_io, kSrc_some, items_tup, items_lst, items_rol, mRng_ap, kRn_ap, kR_some, plainArg, val, new, negF, notF, lenF, absF, intF, boolF, max2F, min2F, tupleF, listF, fI, fI0, slF, isL, Rz.rv, eq_self, List.getElem?_cons_succ, List.getElem?_cons_zero, List.set_cons_succ, List.set_cons_zero, Option.map_some, Option.map_none, Option.bind_some, decide_true, decide_false, decide_not, Bool.not_true, Bool.not_false, Bool.true_and, Bool.and_true, Bool.false_and, Bool.and_false, Bool.true_or, Bool.or_true, Bool.false_or, Bool.or_false, List.nil_append, List.cons_append, List.append_nil, List.length_cons, List.length_nil, List.length_append, List.length_map, List.replicate_succ, List.replicate_zero, List.all_cons, List.all_nil, if_true, if_false, ite_true, ite_false, Nat.sub_self, Nat.reduceAdd, Nat.reduceSub, Nat.reduceLeDiff, Nat.reduceLT, List.take_succ_cons, List.take_zero, true_and, and_true, not_true, not_false_eq_true, and_self, List.nodup_nil, List.nodup_cons, List.mem_cons, List.not_mem_nil, or_false, false_or, List.map_cons, List.map_nil, List.map_append, Bool.decide_eq_true, Nat.zero_le, Bool.cond_true, Bool.cond_false, ↓reduceIte, reduceCtorEq, Int.reduceLT, Int.reduceLE, Int.reduceNeg, Int.reduceAdd, Int.reduceMul, Int.reduceSub, Int.reduceEq, Nat.reduceEqDiff, Nat.zero_add, id, s_is_shaped, b_is_shaped, mFor_eq (show mItems (mVar 0) [.fz (.tup (t.map .int)), .fz (.int 1), .no] = some (.ok (t.map .int, none) [.fz (.tup (t.map .int)), .fz (.int 1), .no]) from rfl), q, h]
  · simp -implicitDefEqProofs only [kR_r1, kR_r2, kR_r3d, intsD, mFor_ap, kForS_ap, addF_ii, addF_tt, addF_ll, addF_ss, mulF_ii, mulF_tt, mulF_ll, subF_ii, ltF_ii, leF_ii, gtF_ii, geF_ii, modF_ii, divF_ii, powF_ii, cutD_lo, cutD_hi, cutD_mid, cutD_m1, mYes_ap, truD, isi_set_int, isi_set_bool, isi_set_tuple, isi_set_list, isi_set_str, isi_set_dict, mLc_ap, allF_f, anyF_f, isi_non_int, isi_bl_int, isi_int_int, isi_str_int, isi_tup_int, isi_lst_int, isi_dK_int, isi_dT_int, isi_non_bool, isi_bl_bool, isi_int_bool, isi_str_bool, isi_tup_bool, isi_lst_bool, isi_dK_bool, isi_dT_bool, isi_non_tuple, isi_bl_tuple, isi_int_tuple, isi_str_tuple, isi_tup_tuple, isi_lst_tuple, isi_dK_tuple, isi_dT_tuple, isi_non_list, isi_bl_list, isi_int_list, isi_str_list, isi_tup_list, isi_lst_list, isi_dK_list, isi_dT_list, isi_non_str, isi_bl_str, isi_int_str, isi_str_str, isi_tup_str, isi_lst_str, isi_dK_str, isi_dT_str, isi_non_dict, isi_bl_dict, isi_int_dict, isi_str_dict, isi_tup_dict, isi_lst_dict, isi_dK_dict, isi_dT_dict, eqF_int, neF_int, eqF_bl, neF_bl, eqF_T, neF_T, eqF_Tm, neF_Tm, bndR_ok, bndR_none, bnd_ap, ret_ap, stuck_ap, mVar_ap, kVar_fz, kVar_ow, kVar_io, mC_ap, content_val, content_new, content_bor, slD_fz, slD_ow, slD_io, rv_f, rv_t, val_eq, new_eq, kRz_some, kRz_none, kP1_some, prim1_ap, kP2_some, prim2_ap, mBin_ap, kBin_ap, kBin2_ap, mUn_ap, kUn_ap, mTest_ap, kTest_ap, mTruth_ap, kTruth_ap, kTru_some, mNotT_ap, kNot_ap, mAndT_ap, mOrT_ap, kAnd_t, kAnd_f, kOr_t, kOr_f, mIf_ap, mIte_ap, kIf_t, kIf_f, mAndV_ap, mOrV_ap, kAndV_t, kAndV_f, kOrV_t, kOrV_f, mChain_ap, kCh1_ap, kCh2_ap, kCh3_ap, kLink_t, kLink_f, mChain3_ap, kC31_ap, kC32_ap, settle_val, settle_new, settle_bor, kSl_fz, kSl_ow, kOk_some, mD_ap, kD_ap, mCons_ap, kCons1_ap, kCons2_ap, mNil_ap, mStar_ap, kStar_ap, kStar1_some, kStar2_ap, mTup_ap, mLst_ap, kTup_ok, kLst_ok, mDict0_ap, mNoPart_ap, mPart_ap, kPart_ap, mSl_ap, kS1_ap, kS2_ap, kS3_ap, kS4_some, mRNil_ap, mRCons_ap, kR1_ap, kR2_ap, contents_nil, contents_cons, kCts_some, mCallB_ap, kCB_ap, kCB1_some, mArg_ap, kArg_f, kArg_val, kArg_new, kArg_bor, kArB_ow, kArB_io, mANil_ap, mACons_ap, kA1_ap, kA2_ap, mCall_ap, kCall_ap, kCall1_some, kFin_ok, owned_ow, owned_io, owned_fz, slsOf_nil, slsOf_pl, slsOf_tp, slsOf_ob, kOb_some, back_nil, back_pl, back_tp, back_ob, obs_nil, obs_pl, obs_tp, obs_ob, tps_nil, tps_pl, tps_tp, tps_ob, setOwn_ap, kSO_ow, kSO_io, mMut_ap, kMut0_some, kMut_some, mHas_ap, kHas_lst, mAppend_ap, kApp_ap, mPop_ap, mExtend_ap, kExt_ap, kExt1_some, appF_ok, extF_ok, popF_snoc, mSeq_ap, kSeq_nx, kSeq_rt, kSeq_bk, kSeq_ct, mSkip_ap, mBrk_ap, mCnt_ap, mExpr_ap, kDrop_ap, mRet_ap, kRet_val, kRet_new, kRet_bor, kRetB_fz, kRetB_ow, mRetN_ap, kNx_some, mSet_ap, kSet_ap, setSl_ap, kSS_no, kSS_fz, kSS_ow, kSS_pl, z1, z2, z3, z4, z5, z6, z7, z8, z9, z10, z11, z12, z13, z14, z15, z16, z17, z18, z19, z20, ixF_lst0, ixF_lst1, ixF_lst2, ixF_lst3, ixF_lstm, ixF_tup0, ixF_tup1, ixF_tup2, ixF_tup3, ixF_tupm, ixF_rol0, ixF_rol1, ixF_rol2, ixF_rol3, ixF_rolm, setF_0, setF_1, setF_2, setF_3, putRv_val, putRv_new, putRv_bor, noIo_no, noIo_fz, noIo_ow, mAsg_ap, kAsg_ap, gNm_ap, gTp_ap, gsNil_ap, gsCons_ap, mSt_ap, kSt_val, kSt_new, kSt_bor, mPNil_ap, mPCons_ap, kPC1_ap, mPar_ap, kPar_ap, putN_nil, putN_cons, mAug_ap, kAug_fz, kAug1_ap, mSetIx_ap, kIx_ap, kIx1_some, kIx2_ap, kIx3_some, kIx5_some, kIx4_some, setF_ok, mTurn_ap, kTurn_nx, kTurn_ct, kTurn_bk, kTurn_rt, kWh_t, kWh_f, forF_nil, kFor_some, semFn_ap, kFn_rt, kFn_nx, plain_fz, plain_io, mItems_ap, kIt_val, kIt_new, kIt_bor, kItB_fz, kItB_ow, kItB_io, kSrc_some, items_tup, items_lst, items_rol, mRng_ap, kRn_ap, kR_some, plainArg, val, new, negF, notF, lenF, absF, intF, boolF, max2F, min2F, tupleF, listF, fI, fI0, slF, isL, Rz.rv, eq_self, List.getElem?_cons_succ, List.getElem?_cons_zero, List.set_cons_succ, List.set_cons_zero, Option.map_some, Option.map_none, Option.bind_some, decide_true, decide_false, decide_not, Bool.not_true, Bool.not_false, Bool.true_and, Bool.and_true, Bool.false_and, Bool.and_false, Bool.true_or, Bool.or_true, Bool.false_or, Bool.or_false, List.nil_append, List.cons_append, List.append_nil, List.length_cons, List.length_nil, List.length_append, List.length_map, List.replicate_succ, List.replicate_zero, List.all_cons, List.all_nil, if_true, if_false, ite_true, ite_false, Nat.sub_self, Nat.reduceAdd, Nat.reduceSub, Nat.reduceLeDiff, Nat.reduceLT, List.take_succ_cons, List.take_zero, true_and, and_true, not_true, not_false_eq_true, and_self, List.nodup_nil, List.nodup_cons, List.mem_cons, List.not_mem_nil, or_false, false_or, List.map_cons, List.map_nil, List.map_append, Bool.decide_eq_true, Nat.zero_le, Bool.cond_true, Bool.cond_false, ↓reduceIte, reduceCtorEq, Int.reduceLT, Int.reduceLE, Int.reduceNeg, Int.reduceAdd, Int.reduceMul, Int.reduceSub, Int.reduceEq, Nat.reduceEqDiff, Nat.zero_add, id, s_is_shaped, b_is_shaped, mFor_eq (show mItems (mVar 0) [.fz (.tup (t.map .int)), .fz (.int 1), .no] = some (.ok (t.map .int, none) [.fz (.tup (t.map .int)), .fz (.int 1), .no]) from rfl), q, h]
/-- which values are terms -/
def isT : D → Bool
  | .tup ds => decide (1 ≤ ds.length) && decide (ds.length ≤ 400) && (ds.all codeB && shpD ds)
  | _ => false
where shpD (ds : List D) : Bool := match intsD ds with
  | some t => shp 1 t
  | none => false
theorem isT_in {d : D} (h : okV d) (hs : ∀ ds, d = .tup ds → ∀ x ∈ ds, okV x) : s_is_term_in [.fz d] = some (.ok (false, .bl (isT d)) [.fz d]) := by
  obtain ⟨T, h⟩ := h
  cases d with
  | rol _ => cases h
  | oth _ => cases h
  | tup ds =>
    by_cases l1 : 1 ≤ ds.length
    · by_cases l2 : ds.length ≤ 400
      · have l1' : (1 : Int) ≤ (ds.length : Int) := by omega
        have l2' : (ds.length : Int) ≤ 400 := by omega
        have sz : ds.length ≤ sizeLine := sizeL (by omega)
        have lc := lc_map (v := 1) (env := [.fz (.tup ds), .no]) (m := e_is_term_in_1) (f := fun d => .bl (codeB d)) (ds := ds) rfl (.inl rfl) sz fun d hd => by
          have w := within_ok (hs ds rfl d hd)
          simp -implicitDefEqProofs only [kR_r1, kR_r2, kR_r3d, intsD, mFor_ap, kForS_ap, addF_ii, addF_tt, addF_ll, addF_ss, mulF_ii, mulF_tt, mulF_ll, subF_ii, ltF_ii, leF_ii, gtF_ii, geF_ii, modF_ii, divF_ii, powF_ii, cutD_lo, cutD_hi, cutD_mid, cutD_m1, mYes_ap, truD, isi_set_int, isi_set_bool, isi_set_tuple, isi_set_list, isi_set_str, isi_set_dict, mLc_ap, allF_f, anyF_f, isi_non_int, isi_bl_int, isi_int_int, isi_str_int, isi_tup_int, isi_lst_int, isi_dK_int, isi_dT_int, isi_non_bool, isi_bl_bool, isi_int_bool, isi_str_bool, isi_tup_bool, isi_lst_bool, isi_dK_bool, isi_dT_bool, isi_non_tuple, isi_bl_tuple, isi_int_tuple, isi_str_tuple, isi_tup_tuple, isi_lst_tuple, isi_dK_tuple, isi_dT_tuple, isi_non_list, isi_bl_list, isi_int_list, isi_str_list, isi_tup_list, isi_lst_list, isi_dK_list, isi_dT_list, isi_non_str, isi_bl_str, isi_int_str, isi_str_str, isi_tup_str, isi_lst_str, isi_dK_str, isi_dT_str, isi_non_dict, isi_bl_dict, isi_int_dict, isi_str_dict, isi_tup_dict, isi_lst_dict, isi_dK_dict, isi_dT_dict, eqF_int, neF_int, eqF_bl, neF_bl, eqF_T, neF_T, eqF_Tm, neF_Tm, bndR_ok, bndR_none, bnd_ap, ret_ap, stuck_ap, mVar_ap, kVar_fz, kVar_ow, kVar_io, mC_ap, content_val, content_new, content_bor, slD_fz, slD_ow, slD_io, rv_f, rv_t, val_eq, new_eq, kRz_some, kRz_none, kP1_some, prim1_ap, kP2_some, prim2_ap, mBin_ap, kBin_ap, kBin2_ap, mUn_ap, kUn_ap, mTest_ap, kTest_ap, mTruth_ap, kTruth_ap, kTru_some, mNotT_ap, kNot_ap, mAndT_ap, mOrT_ap, kAnd_t, kAnd_f, kOr_t, kOr_f, mIf_ap, mIte_ap, kIf_t, kIf_f, mAndV_ap, mOrV_ap, kAndV_t, kAndV_f, kOrV_t, kOrV_f, mChain_ap, kCh1_ap, kCh2_ap, kCh3_ap, kLink_t, kLink_f, mChain3_ap, kC31_ap, kC32_ap, settle_val, settle_new, settle_bor, kSl_fz, kSl_ow, kOk_some, mD_ap, kD_ap, mCons_ap, kCons1_ap, kCons2_ap, mNil_ap, mStar_ap, kStar_ap, kStar1_some, kStar2_ap, mTup_ap, mLst_ap, kTup_ok, kLst_ok, mDict0_ap, mNoPart_ap, mPart_ap, kPart_ap, mSl_ap, kS1_ap, kS2_ap, kS3_ap, kS4_some, mRNil_ap, mRCons_ap, kR1_ap, kR2_ap, contents_nil, contents_cons, kCts_some, mCallB_ap, kCB_ap, kCB1_some, mArg_ap, kArg_f, kArg_val, kArg_new, kArg_bor, kArB_ow, kArB_io, mANil_ap, mACons_ap, kA1_ap, kA2_ap, mCall_ap, kCall_ap, kCall1_some, kFin_ok, owned_ow, owned_io, owned_fz, slsOf_nil, slsOf_pl, slsOf_tp, slsOf_ob, kOb_some, back_nil, back_pl, back_tp, back_ob, obs_nil, obs_pl, obs_tp, obs_ob, tps_nil, tps_pl, tps_tp, tps_ob, setOwn_ap, kSO_ow, kSO_io, mMut_ap, kMut0_some, kMut_some, mHas_ap, kHas_lst, mAppend_ap, kApp_ap, mPop_ap, mExtend_ap, kExt_ap, kExt1_some, appF_ok, extF_ok, popF_snoc, mSeq_ap, kSeq_nx, kSeq_rt, kSeq_bk, kSeq_ct, mSkip_ap, mBrk_ap, mCnt_ap, mExpr_ap, kDrop_ap, mRet_ap, kRet_val, kRet_new, kRet_bor, kRetB_fz, kRetB_ow, mRetN_ap, kNx_some, mSet_ap, kSet_ap, setSl_ap, kSS_no, kSS_fz, kSS_ow, kSS_pl, z1, z2, z3, z4, z5, z6, z7, z8, z9, z10, z11, z12, z13, z14, z15, z16, z17, z18, z19, z20, ixF_lst0, ixF_lst1, ixF_lst2, ixF_lst3, ixF_lstm, ixF_tup0, ixF_tup1, ixF_tup2, ixF_tup3, ixF_tupm, ixF_rol0, ixF_rol1, ixF_rol2, ixF_rol3, ixF_rolm, setF_0, setF_1, setF_2, setF_3, putRv_val, putRv_new, putRv_bor, noIo_no, noIo_fz, noIo_ow, mAsg_ap, kAsg_ap, gNm_ap, gTp_ap, gsNil_ap, gsCons_ap, mSt_ap, kSt_val, kSt_new, kSt_bor, mPNil_ap, mPCons_ap, kPC1_ap, mPar_ap, kPar_ap, putN_nil, putN_cons, mAug_ap, kAug_fz, kAug1_ap, mSetIx_ap, kIx_ap, kIx1_some, kIx2_ap, kIx3_some, kIx5_some, kIx4_some, setF_ok, mTurn_ap, kTurn_nx, kTurn_ct, kTurn_bk, kTurn_rt, kWh_t, kWh_f, forF_nil, kFor_some, semFn_ap, kFn_rt, kFn_nx, plain_fz, plain_io, mItems_ap, kIt_val, kIt_new, kIt_bor, kItB_fz, kItB_ow, kItB_io, kSrc_some, items_tup, items_lst, items_rol, mRng_ap, kRn_ap, kR_some, plainArg, val, new, negF, notF, lenF, absF, intF, boolF, max2F, min2F, tupleF, listF, fI, fI0, slF, isL, Rz.rv, eq_self, List.getElem?_cons_succ, List.getElem?_cons_zero, List.set_cons_succ, List.set_cons_zero, Option.map_some, Option.map_none, Option.bind_some, decide_true, decide_false, decide_not, Bool.not_true, Bool.not_false, Bool.true_and, Bool.and_true, Bool.false_and, Bool.and_false, Bool.true_or, Bool.or_true, Bool.false_or, Bool.or_false, List.nil_append, List.cons_append, List.append_nil, List.length_cons, List.length_nil, List.length_append, List.length_map, List.replicate_succ, List.replicate_zero, List.all_cons, List.all_nil, if_true, if_false, ite_true, ite_false, Nat.sub_self, Nat.reduceAdd, Nat.reduceSub, Nat.reduceLeDiff, Nat.reduceLT, List.take_succ_cons, List.take_zero, true_and, and_true, not_true, not_false_eq_true, and_self, List.nodup_nil, List.nodup_cons, List.mem_cons, List.not_mem_nil, or_false, false_or, List.map_cons, List.map_nil, List.map_append, Bool.decide_eq_true, Nat.zero_le, Bool.cond_true, Bool.cond_false, ↓reduceIte, reduceCtorEq, Int.reduceLT, Int.reduceLE, Int.reduceNeg, Int.reduceAdd, Int.reduceMul, Int.reduceSub, Int.reduceEq, Nat.reduceEqDiff, Nat.zero_add, id, e_is_term_in_1, w]
        by_cases ac : ds.all codeB = true
        · obtain ⟨t, rfl, ht⟩ := codes_int ds ac
          simp only [List.length_map] at l1 l2 l1' l2'
          have so := shaped_ok t
          simp -implicitDefEqProofs only [kR_r1, kR_r2, kR_r3d, intsD, mFor_ap, kForS_ap, addF_ii, addF_tt, addF_ll, addF_ss, mulF_ii, mulF_tt, mulF_ll, subF_ii, ltF_ii, leF_ii, gtF_ii, geF_ii, modF_ii, divF_ii, powF_ii, cutD_lo, cutD_hi, cutD_mid, cutD_m1, mYes_ap, truD, isi_set_int, isi_set_bool, isi_set_tuple, isi_set_list, isi_set_str, isi_set_dict, mLc_ap, allF_f, anyF_f, isi_non_int, isi_bl_int, isi_int_int, isi_str_int, isi_tup_int, isi_lst_int, isi_dK_int, isi_dT_int, isi_non_bool, isi_bl_bool, isi_int_bool, isi_str_bool, isi_tup_bool, isi_lst_bool, isi_dK_bool, isi_dT_bool, isi_non_tuple, isi_bl_tuple, isi_int_tuple, isi_str_tuple, isi_tup_tuple, isi_lst_tuple, isi_dK_tuple, isi_dT_tuple, isi_non_list, isi_bl_list, isi_int_list, isi_str_list, isi_tup_list, isi_lst_list, isi_dK_list, isi_dT_list, isi_non_str, isi_bl_str, isi_int_str, isi_str_str, isi_tup_str, isi_lst_str, isi_dK_str, isi_dT_str, isi_non_dict, isi_bl_dict, isi_int_dict, isi_str_dict, isi_tup_dict, isi_lst_dict, isi_dK_dict, isi_dT_dict, eqF_int, neF_int, eqF_bl, neF_bl, eqF_T, neF_T, eqF_Tm, neF_Tm, bndR_ok, bndR_none, bnd_ap, ret_ap, stuck_ap, mVar_ap, kVar_fz, kVar_ow, kVar_io, mC_ap, content_val, content_new, content_bor, slD_fz, slD_ow, slD_io, rv_f, rv_t, val_eq, new_eq, kRz_some, kRz_none, kP1_some, prim1_ap, kP2_some, prim2_ap, mBin_ap, kBin_ap, kBin2_ap, mUn_ap, kUn_ap, mTest_ap, kTest_ap, mTruth_ap, kTruth_ap, kTru_some, mNotT_ap, kNot_ap, mAndT_ap, mOrT_ap, kAnd_t, kAnd_f, kOr_t, kOr_f, mIf_ap, mIte_ap, kIf_t, kIf_f, mAndV_ap, mOrV_ap, kAndV_t, kAndV_f, kOrV_t, kOrV_f, mChain_ap, kCh1_ap, kCh2_ap, kCh3_ap, kLink_t, kLink_f, mChain3_ap, kC31_ap, kC32_ap, settle_val, settle_new, settle_bor, kSl_fz, kSl_ow, kOk_some, mD_ap, kD_ap, mCons_ap, kCons1_ap, kCons2_ap, mNil_ap, mStar_ap, kStar_ap, kStar1_some, kStar2_ap, mTup_ap, mLst_ap, kTup_ok, kLst_ok, mDict0_ap, mNoPart_ap, mPart_ap, kPart_ap, mSl_ap, kS1_ap, kS2_ap, kS3_ap, kS4_some, mRNil_ap, mRCons_ap, kR1_ap, kR2_ap, contents_nil, contents_cons, kCts_some, mCallB_ap, kCB_ap, kCB1_some, mArg_ap, kArg_f, kArg_val, kArg_new, kArg_bor, kArB_ow, kArB_io, mANil_ap, mACons_ap, kA1_ap, kA2_ap, mCall_ap, kCall_ap, kCall1_some, kFin_ok, owned_ow, owned_io, owned_fz, slsOf_nil, slsOf_pl, slsOf_tp, slsOf_ob, kOb_some, back_nil, back_pl, back_tp, back_ob, obs_nil, obs_pl, obs_tp, obs_ob, tps_nil, tps_pl, tps_tp, tps_ob, setOwn_ap, kSO_ow, kSO_io, mMut_ap, kMut0_some, kMut_some, mHas_ap, kHas_lst, mAppend_ap, kApp_ap, mPop_ap, mExtend_ap, kExt_ap, kExt1_some, appF_ok, extF_ok, popF_snoc, mSeq_ap, kSeq_nx, kSeq_rt, kSeq_bk, kSeq_ct, mSkip_ap, mBrk_ap, mCnt_ap, mExpr_ap, kDrop_ap, mRet_ap, kRet_val, kRet_new, kRet_bor, kRetB_fz, kRetB_ow, mRetN_ap, kNx_some, mSet_ap, kSet_ap, setSl_ap, kSS_no, kSS_fz, kSS_ow, kSS_pl, z1, z2, z3, z4, z5, z6, z7, z8, z9, z10, z11, z12, z13, z14, z15, z16, z17, z18, z19, z20, ixF_lst0, ixF_lst1, ixF_lst2, ixF_lst3, ixF_lstm, ixF_tup0, ixF_tup1, ixF_tup2, ixF_tup3, ixF_tupm, ixF_rol0, ixF_rol1, ixF_rol2, ixF_rol3, ixF_rolm, setF_0, setF_1, setF_2, setF_3, putRv_val, putRv_new, putRv_bor, noIo_no, noIo_fz, noIo_ow, mAsg_ap, kAsg_ap, gNm_ap, gTp_ap, gsNil_ap, gsCons_ap, mSt_ap, kSt_val, kSt_new, kSt_bor, mPNil_ap, mPCons_ap, kPC1_ap, mPar_ap, kPar_ap, putN_nil, putN_cons, mAug_ap, kAug_fz, kAug1_ap, mSetIx_ap, kIx_ap, kIx1_some, kIx2_ap, kIx3_some, kIx5_some, kIx4_some, setF_ok, mTurn_ap, kTurn_nx, kTurn_ct, kTurn_bk, kTurn_rt, kWh_t, kWh_f, forF_nil, kFor_some, semFn_ap, kFn_rt, kFn_nx, plain_fz, plain_io, mItems_ap, kIt_val, kIt_new, kIt_bor, kItB_fz, kItB_ow, kItB_io, kSrc_some, items_tup, items_lst, items_rol, mRng_ap, kRn_ap, kR_some, plainArg, val, new, negF, notF, lenF, absF, intF, boolF, max2F, min2F, tupleF, listF, fI, fI0, slF, isL, Rz.rv, eq_self, List.getElem?_cons_succ, List.getElem?_cons_zero, List.set_cons_succ, List.set_cons_zero, Option.map_some, Option.map_none, Option.bind_some, decide_true, decide_false, decide_not, Bool.not_true, Bool.not_false, Bool.true_and, Bool.and_true, Bool.false_and, Bool.and_false, Bool.true_or, Bool.or_true, Bool.false_or, Bool.or_false, List.nil_append, List.cons_append, List.append_nil, List.length_cons, List.length_nil, List.length_append, List.length_map, List.replicate_succ, List.replicate_zero, List.all_cons, List.all_nil, if_true, if_false, ite_true, ite_false, Nat.sub_self, Nat.reduceAdd, Nat.reduceSub, Nat.reduceLeDiff, Nat.reduceLT, List.take_succ_cons, List.take_zero, true_and, and_true, not_true, not_false_eq_true, and_self, List.nodup_nil, List.nodup_cons, List.mem_cons, List.not_mem_nil, or_false, false_or, List.map_cons, List.map_nil, List.map_append, Bool.decide_eq_true, Nat.zero_le, Bool.cond_true, Bool.cond_false, ↓reduceIte, reduceCtorEq, Int.reduceLT, Int.reduceLE, Int.reduceNeg, Int.reduceAdd, Int.reduceMul, Int.reduceSub, Int.reduceEq, Nat.reduceEqDiff, Nat.zero_add, id, s_is_term_in, b_is_term_in, isT, isT.shpD, l1, l2, l1', l2', lc, ac, so, intsD_map]
        · have ac' : ds.all codeB = false := by simpa using ac
          simp -implicitDefEqProofs only [kR_r1, kR_r2, kR_r3d, intsD, mFor_ap, kForS_ap, addF_ii, addF_tt, addF_ll, addF_ss, mulF_ii, mulF_tt, mulF_ll, subF_ii, ltF_ii, leF_ii, gtF_ii, geF_ii, modF_ii, divF_ii, powF_ii, cutD_lo, cutD_hi, cutD_mid, cutD_m1, mYes_ap, truD, isi_set_int, isi_set_bool, isi_set_tuple, isi_set_list, isi_set_str, isi_set_dict, mLc_ap, allF_f, anyF_f, isi_non_int, isi_bl_int, isi_int_int, isi_str_int, isi_tup_int, isi_lst_int, isi_dK_int, isi_dT_int, isi_non_bool, isi_bl_bool, isi_int_bool, isi_str_bool, isi_tup_bool, isi_lst_bool, isi_dK_bool, isi_dT_bool, isi_non_tuple, isi_bl_tuple, isi_int_tuple, isi_str_tuple, isi_tup_tuple, isi_lst_tuple, isi_dK_tuple, isi_dT_tuple, isi_non_list, isi_bl_list, isi_int_list, isi_str_list, isi_tup_list, isi_lst_list, isi_dK_list, isi_dT_list, isi_non_str, isi_bl_str, isi_int_str, isi_str_str, isi_tup_str, isi_lst_str, isi_dK_str, isi_dT_str, isi_non_dict, isi_bl_dict, isi_int_dict, isi_str_dict, isi_tup_dict, isi_lst_dict, isi_dK_dict, isi_dT_dict, eqF_int, neF_int, eqF_bl, neF_bl, eqF_T, neF_T, eqF_Tm, neF_Tm, bndR_ok, bndR_none, bnd_ap, ret_ap, stuck_ap, mVar_ap, kVar_fz, kVar_ow, kVar_io, mC_ap, content_val, content_new, content_bor, slD_fz, slD_ow, slD_io, rv_f, rv_t, val_eq, new_eq, kRz_some, kRz_none, kP1_some, prim1_ap, kP2_some, prim2_ap, mBin_ap, kBin_ap, kBin2_ap, mUn_ap, kUn_ap, mTest_ap, kTest_ap, mTruth_ap, kTruth_ap, kTru_some, mNotT_ap, kNot_ap, mAndT_ap, mOrT_ap, kAnd_t, kAnd_f, kOr_t, kOr_f, mIf_ap, mIte_ap, kIf_t, kIf_f, mAndV_ap, mOrV_ap, kAndV_t, kAndV_f, kOrV_t, kOrV_f, mChain_ap, kCh1_ap, kCh2_ap, kCh3_ap, kLink_t, kLink_f, mChain3_ap, kC31_ap, kC32_ap, settle_val, settle_new, settle_bor, kSl_fz, kSl_ow, kOk_some, mD_ap, kD_ap, mCons_ap, kCons1_ap, kCons2_ap, mNil_ap, mStar_ap, kStar_ap, kStar1_some, kStar2_ap, mTup_ap, mLst_ap, kTup_ok, kLst_ok, mDict0_ap, mNoPart_ap, mPart_ap, kPart_ap, mSl_ap, kS1_ap, kS2_ap, kS3_ap, kS4_some, mRNil_ap, mRCons_ap, kR1_ap, kR2_ap, contents_nil, contents_cons, kCts_some, mCallB_ap, kCB_ap, kCB1_some, mArg_ap, kArg_f, kArg_val, kArg_new, kArg_bor, kArB_ow, kArB_io, mANil_ap, mACons_ap, kA1_ap, kA2_ap, mCall_ap, kCall_ap, kCall1_some, kFin_ok, owned_ow, owned_io, owned_fz, slsOf_nil, slsOf_pl, slsOf_tp, slsOf_ob, kOb_some, back_nil, back_pl, back_tp, back_ob, obs_nil, obs_pl, obs_tp, obs_ob, tps_nil, tps_pl, tps_tp, tps_ob, setOwn_ap, kSO_ow, kSO_io, mMut_ap, kMut0_some, kMut_some, mHas_ap, kHas_lst, mAppend_ap, kApp_ap, mPop_ap, mExtend_ap, kExt_ap, kExt1_some, appF_ok, extF_ok, popF_snoc, mSeq_ap, kSeq_nx, kSeq_rt, kSeq_bk, kSeq_ct, mSkip_ap, mBrk_ap, mCnt_ap, mExpr_ap, kDrop_ap, mRet_ap, kRet_val, kRet_new, kRet_bor, kRetB_fz, kRetB_ow, mRetN_ap, kNx_some, mSet_ap, kSet_ap, setSl_ap, kSS_no, kSS_fz, kSS_ow, kSS_pl, z1, z2, z3, z4, z5, z6, z7, z8, z9, z10, z11, z12, z13, z14, z15, z16, z17, z18, z19, z20, ixF_lst0, ixF_lst1, ixF_lst2, ixF_lst3, ixF_lstm, ixF_tup0, ixF_tup1, ixF_tup2, ixF_tup3, ixF_tupm, ixF_rol0, ixF_rol1, ixF_rol2, ixF_rol3, ixF_rolm, setF_0, setF_1, setF_2, setF_3, putRv_val, putRv_new, putRv_bor, noIo_no, noIo_fz, noIo_ow, mAsg_ap, kAsg_ap, gNm_ap, gTp_ap, gsNil_ap, gsCons_ap, mSt_ap, kSt_val, kSt_new, kSt_bor, mPNil_ap, mPCons_ap, kPC1_ap, mPar_ap, kPar_ap, putN_nil, putN_cons, mAug_ap, kAug_fz, kAug1_ap, mSetIx_ap, kIx_ap, kIx1_some, kIx2_ap, kIx3_some, kIx5_some, kIx4_some, setF_ok, mTurn_ap, kTurn_nx, kTurn_ct, kTurn_bk, kTurn_rt, kWh_t, kWh_f, forF_nil, kFor_some, semFn_ap, kFn_rt, kFn_nx, plain_fz, plain_io, mItems_ap, kIt_val, kIt_new, kIt_bor, kItB_fz, kItB_ow, kItB_io, kSrc_some, items_tup, items_lst, items_rol, mRng_ap, kRn_ap, kR_some, plainArg, val, new, negF, notF, lenF, absF, intF, boolF, max2F, min2F, tupleF, listF, fI, fI0, slF, isL, Rz.rv, eq_self, List.getElem?_cons_succ, List.getElem?_cons_zero, List.set_cons_succ, List.set_cons_zero, Option.map_some, Option.map_none, Option.bind_some, decide_true, decide_false, decide_not, Bool.not_true, Bool.not_false, Bool.true_and, Bool.and_true, Bool.false_and, Bool.and_false, Bool.true_or, Bool.or_true, Bool.false_or, Bool.or_false, List.nil_append, List.cons_append, List.append_nil, List.length_cons, List.length_nil, List.length_append, List.length_map, List.replicate_succ, List.replicate_zero, List.all_cons, List.all_nil, if_true, if_false, ite_true, ite_false, Nat.sub_self, Nat.reduceAdd, Nat.reduceSub, Nat.reduceLeDiff, Nat.reduceLT, List.take_succ_cons, List.take_zero, true_and, and_true, not_true, not_false_eq_true, and_self, List.nodup_nil, List.nodup_cons, List.mem_cons, List.not_mem_nil, or_false, false_or, List.map_cons, List.map_nil, List.map_append, Bool.decide_eq_true, Nat.zero_le, Bool.cond_true, Bool.cond_false, ↓reduceIte, reduceCtorEq, Int.reduceLT, Int.reduceLE, Int.reduceNeg, Int.reduceAdd, Int.reduceMul, Int.reduceSub, Int.reduceEq, Nat.reduceEqDiff, Nat.zero_add, id, s_is_term_in, b_is_term_in, isT, l1, l2, l1', l2', lc, ac']
      · have l1' : (1 : Int) ≤ (ds.length : Int) := by omega
        have l2' : ¬ (ds.length : Int) ≤ 400 := by omega
        simp -implicitDefEqProofs only [kR_r1, kR_r2, kR_r3d, intsD, mFor_ap, kForS_ap, addF_ii, addF_tt, addF_ll, addF_ss, mulF_ii, mulF_tt, mulF_ll, subF_ii, ltF_ii, leF_ii, gtF_ii, geF_ii, modF_ii, divF_ii, powF_ii, cutD_lo, cutD_hi, cutD_mid, cutD_m1, mYes_ap, truD, isi_set_int, isi_set_bool, isi_set_tuple, isi_set_list, isi_set_str, isi_set_dict, mLc_ap, allF_f, anyF_f, isi_non_int, isi_bl_int, isi_int_int, isi_str_int, isi_tup_int, isi_lst_int, isi_dK_int, isi_dT_int, isi_non_bool, isi_bl_bool, isi_int_bool, isi_str_bool, isi_tup_bool, isi_lst_bool, isi_dK_bool, isi_dT_bool, isi_non_tuple, isi_bl_tuple, isi_int_tuple, isi_str_tuple, isi_tup_tuple, isi_lst_tuple, isi_dK_tuple, isi_dT_tuple, isi_non_list, isi_bl_list, isi_int_list, isi_str_list, isi_tup_list, isi_lst_list, isi_dK_list, isi_dT_list, isi_non_str, isi_bl_str, isi_int_str, isi_str_str, isi_tup_str, isi_lst_str, isi_dK_str, isi_dT_str, isi_non_dict, isi_bl_dict, isi_int_dict, isi_str_dict, isi_tup_dict, isi_lst_dict, isi_dK_dict, isi_dT_dict, eqF_int, neF_int, eqF_bl, neF_bl, eqF_T, neF_T, eqF_Tm, neF_Tm, bndR_ok, bndR_none, bnd_ap, ret_ap, stuck_ap, mVar_ap, kVar_fz, kVar_ow, kVar_io, mC_ap, content_val, content_new, content_bor, slD_fz, slD_ow, slD_io, rv_f, rv_t, val_eq, new_eq, kRz_some, kRz_none, kP1_some, prim1_ap, kP2_some, prim2_ap, mBin_ap, kBin_ap, kBin2_ap, mUn_ap, kUn_ap, mTest_ap, kTest_ap, mTruth_ap, kTruth_ap, kTru_some, mNotT_ap, kNot_ap, mAndT_ap, mOrT_ap, kAnd_t, kAnd_f, kOr_t, kOr_f, mIf_ap, mIte_ap, kIf_t, kIf_f, mAndV_ap, mOrV_ap, kAndV_t, kAndV_f, kOrV_t, kOrV_f, mChain_ap, kCh1_ap, kCh2_ap, kCh3_ap, kLink_t, kLink_f, mChain3_ap, kC31_ap, kC32_ap, settle_val, settle_new, settle_bor, kSl_fz, kSl_ow, kOk_some, mD_ap, kD_ap, mCons_ap, kCons1_ap, kCons2_ap, mNil_ap, mStar_ap, kStar_ap, kStar1_some, kStar2_ap, mTup_ap, mLst_ap, kTup_ok, kLst_ok, mDict0_ap, mNoPart_ap, mPart_ap, kPart_ap, mSl_ap, kS1_ap, kS2_ap, kS3_ap, kS4_some, mRNil_ap, mRCons_ap, kR1_ap, kR2_ap, contents_nil, contents_cons, kCts_some, mCallB_ap, kCB_ap, kCB1_some, mArg_ap, kArg_f, kArg_val, kArg_new, kArg_bor, kArB_ow, kArB_io, mANil_ap, mACons_ap, kA1_ap, kA2_ap, mCall_ap, kCall_ap, kCall1_some, kFin_ok, owned_ow, owned_io, owned_fz, slsOf_nil, slsOf_pl, slsOf_tp, slsOf_ob, kOb_some, back_nil, back_pl, back_tp, back_ob, obs_nil, obs_pl, obs_tp, obs_ob, tps_nil, tps_pl, tps_tp, tps_ob, setOwn_ap, kSO_ow, kSO_io, mMut_ap, kMut0_some, kMut_some, mHas_ap, kHas_lst, mAppend_ap, kApp_ap, mPop_ap, mExtend_ap, kExt_ap, kExt1_some, appF_ok, extF_ok, popF_snoc, mSeq_ap, kSeq_nx, kSeq_rt, kSeq_bk, kSeq_ct, mSkip_ap, mBrk_ap, mCnt_ap, mExpr_ap, kDrop_ap, mRet_ap, kRet_val, kRet_new, kRet_bor, kRetB_fz, kRetB_ow, mRetN_ap, kNx_some, mSet_ap, kSet_ap, setSl_ap, kSS_no, kSS_fz, kSS_ow, kSS_pl, z1, z2, z3, z4, z5, z6, z7, z8, z9, z10, z11, z12, z13, z14, z15, z16, z17, z18, z19, z20, ixF_lst0, ixF_lst1, ixF_lst2, ixF_lst3, ixF_lstm, ixF_tup0, ixF_tup1, ixF_tup2, ixF_tup3, ixF_tupm, ixF_rol0, ixF_rol1, ixF_rol2, ixF_rol3, ixF_rolm, setF_0, setF_1, setF_2, setF_3, putRv_val, putRv_new, putRv_bor, noIo_no, noIo_fz, noIo_ow, mAsg_ap, kAsg_ap, gNm_ap, gTp_ap, gsNil_ap, gsCons_ap, mSt_ap, kSt_val, kSt_new, kSt_bor, mPNil_ap, mPCons_ap, kPC1_ap, mPar_ap, kPar_ap, putN_nil, putN_cons, mAug_ap, kAug_fz, kAug1_ap, mSetIx_ap, kIx_ap, kIx1_some, kIx2_ap, kIx3_some, kIx5_some, kIx4_some, setF_ok, mTurn_ap, kTurn_nx, kTurn_ct, kTurn_bk, kTurn_rt, kWh_t, kWh_f, forF_nil, kFor_some, semFn_ap, kFn_rt, kFn_nx, plain_fz, plain_io, mItems_ap, kIt_val, kIt_new, kIt_bor, kItB_fz, kItB_ow, kItB_io, kSrc_some, items_tup, items_lst, items_rol, mRng_ap, kRn_ap, kR_some, plainArg, val, new, negF, notF, lenF, absF, intF, boolF, max2F, min2F, tupleF, listF, fI, fI0, slF, isL, Rz.rv, eq_self, List.getElem?_cons_succ, List.getElem?_cons_zero, List.set_cons_succ, List.set_cons_zero, Option.map_some, Option.map_none, Option.bind_some, decide_true, decide_false, decide_not, Bool.not_true, Bool.not_false, Bool.true_and, Bool.and_true, Bool.false_and, Bool.and_false, Bool.true_or, Bool.or_true, Bool.false_or, Bool.or_false, List.nil_append, List.cons_append, List.append_nil, List.length_cons, List.length_nil, List.length_append, List.length_map, List.replicate_succ, List.replicate_zero, List.all_cons, List.all_nil, if_true, if_false, ite_true, ite_false, Nat.sub_self, Nat.reduceAdd, Nat.reduceSub, Nat.reduceLeDiff, Nat.reduceLT, List.take_succ_cons, List.take_zero, true_and, and_true, not_true, not_false_eq_true, and_self, List.nodup_nil, List.nodup_cons, List.mem_cons, List.not_mem_nil, or_false, false_or, List.map_cons, List.map_nil, List.map_append, Bool.decide_eq_true, Nat.zero_le, Bool.cond_true, Bool.cond_false, ↓reduceIte, reduceCtorEq, Int.reduceLT, Int.reduceLE, Int.reduceNeg, Int.reduceAdd, Int.reduceMul, Int.reduceSub, Int.reduceEq, Nat.reduceEqDiff, Nat.zero_add, id, s_is_term_in, b_is_term_in, isT, l1, l2, l1', l2']
    · have l1' : ¬ (1 : Int) ≤ (ds.length : Int) := by omega
      simp -implicitDefEqProofs only [kR_r1, kR_r2, kR_r3d, intsD, mFor_ap, kForS_ap, addF_ii, addF_tt, addF_ll, addF_ss, mulF_ii, mulF_tt, mulF_ll, subF_ii, ltF_ii, leF_ii, gtF_ii, geF_ii, modF_ii, divF_ii, powF_ii, cutD_lo, cutD_hi, cutD_mid, cutD_m1, mYes_ap, truD, isi_set_int, isi_set_bool, isi_set_tuple, isi_set_list, isi_set_str, isi_set_dict, mLc_ap, allF_f, anyF_f, isi_non_int, isi_bl_int, isi_int_int, isi_str_int, isi_tup_int, isi_lst_int, isi_dK_int, isi_dT_int, isi_non_bool, isi_bl_bool, isi_int_bool, isi_str_bool, isi_tup_bool, isi_lst_bool, isi_dK_bool, isi_dT_bool, isi_non_tuple, isi_bl_tuple, isi_int_tuple, isi_str_tuple, isi_tup_tuple, isi_lst_tuple, isi_dK_tuple, isi_dT_tuple, isi_non_list, isi_bl_list, isi_int_list, isi_str_list, isi_tup_list, isi_lst_list, isi_dK_list, isi_dT_list, isi_non_str, isi_bl_str, isi_int_str, isi_str_str, isi_tup_str, isi_lst_str, isi_dK_str, isi_dT_str, isi_non_dict, isi_bl_dict, isi_int_dict, isi_str_dict, isi_tup_dict, isi_lst_dict, isi_dK_dict, isi_dT_dict, eqF_int, neF_int, eqF_bl, neF_bl, eqF_T, neF_T, eqF_Tm, neF_Tm, bndR_ok, bndR_none, bnd_ap, ret_ap, stuck_ap, mVar_ap, kVar_fz, kVar_ow, kVar_io, mC_ap, content_val, content_new, content_bor, slD_fz, slD_ow, slD_io, rv_f, rv_t, val_eq, new_eq, kRz_some, kRz_none, kP1_some, prim1_ap, kP2_some, prim2_ap, mBin_ap, kBin_ap, kBin2_ap, mUn_ap, kUn_ap, mTest_ap, kTest_ap, mTruth_ap, kTruth_ap, kTru_some, mNotT_ap, kNot_ap, mAndT_ap, mOrT_ap, kAnd_t, kAnd_f, kOr_t, kOr_f, mIf_ap, mIte_ap, kIf_t, kIf_f, mAndV_ap, mOrV_ap, kAndV_t, kAndV_f, kOrV_t, kOrV_f, mChain_ap, kCh1_ap, kCh2_ap, kCh3_ap, kLink_t, kLink_f, mChain3_ap, kC31_ap, kC32_ap, settle_val, settle_new, settle_bor, kSl_fz, kSl_ow, kOk_some, mD_ap, kD_ap, mCons_ap, kCons1_ap, kCons2_ap, mNil_ap, mStar_ap, kStar_ap, kStar1_some, kStar2_ap, mTup_ap, mLst_ap, kTup_ok, kLst_ok, mDict0_ap, mNoPart_ap, mPart_ap, kPart_ap, mSl_ap, kS1_ap, kS2_ap, kS3_ap, kS4_some, mRNil_ap, mRCons_ap, kR1_ap, kR2_ap, contents_nil, contents_cons, kCts_some, mCallB_ap, kCB_ap, kCB1_some, mArg_ap, kArg_f, kArg_val, kArg_new, kArg_bor, kArB_ow, kArB_io, mANil_ap, mACons_ap, kA1_ap, kA2_ap, mCall_ap, kCall_ap, kCall1_some, kFin_ok, owned_ow, owned_io, owned_fz, slsOf_nil, slsOf_pl, slsOf_tp, slsOf_ob, kOb_some, back_nil, back_pl, back_tp, back_ob, obs_nil, obs_pl, obs_tp, obs_ob, tps_nil, tps_pl, tps_tp, tps_ob, setOwn_ap, kSO_ow, kSO_io, mMut_ap, kMut0_some, kMut_some, mHas_ap, kHas_lst, mAppend_ap, kApp_ap, mPop_ap, mExtend_ap, kExt_ap, kExt1_some, appF_ok, extF_ok, popF_snoc, mSeq_ap, kSeq_nx, kSeq_rt, kSeq_bk, kSeq_ct, mSkip_ap, mBrk_ap, mCnt_ap, mExpr_ap, kDrop_ap, mRet_ap, kRet_val, kRet_new, kRet_bor, kRetB_fz, kRetB_ow, mRetN_ap, kNx_some, mSet_ap, kSet_ap, setSl_ap, kSS_no, kSS_fz, kSS_ow, kSS_pl, z1, z2, z3, z4, z5, z6, z7, z8, z9, z10, z11, z12, z13, z14, z15, z16, z17, z18, z19, z20, ixF_lst0, ixF_lst1, ixF_lst2, ixF_lst3, ixF_lstm, ixF_tup0, ixF_tup1, ixF_tup2, ixF_tup3, ixF_tupm, ixF_rol0, ixF_rol1, ixF_rol2, ixF_rol3, ixF_rolm, setF_0, setF_1, setF_2, setF_3, putRv_val, putRv_new, putRv_bor, noIo_no, noIo_fz, noIo_ow, mAsg_ap, kAsg_ap, gNm_ap, gTp_ap, gsNil_ap, gsCons_ap, mSt_ap, kSt_val, kSt_new, kSt_bor, mPNil_ap, mPCons_ap, kPC1_ap, mPar_ap, kPar_ap, putN_nil, putN_cons, mAug_ap, kAug_fz, kAug1_ap, mSetIx_ap, kIx_ap, kIx1_some, kIx2_ap, kIx3_some, kIx5_some, kIx4_some, setF_ok, mTurn_ap, kTurn_nx, kTurn_ct, kTurn_bk, kTurn_rt, kWh_t, kWh_f, forF_nil, kFor_some, semFn_ap, kFn_rt, kFn_nx, plain_fz, plain_io, mItems_ap, kIt_val, kIt_new, kIt_bor, kItB_fz, kItB_ow, kItB_io, kSrc_some, items_tup, items_lst, items_rol, mRng_ap, kRn_ap, kR_some, plainArg, val, new, negF, notF, lenF, absF, intF, boolF, max2F, min2F, tupleF, listF, fI, fI0, slF, isL, Rz.rv, eq_self, List.getElem?_cons_succ, List.getElem?_cons_zero, List.set_cons_succ, List.set_cons_zero, Option.map_some, Option.map_none, Option.bind_some, decide_true, decide_false, decide_not, Bool.not_true, Bool.not_false, Bool.true_and, Bool.and_true, Bool.false_and, Bool.and_false, Bool.true_or, Bool.or_true, Bool.false_or, Bool.or_false, List.nil_append, List.cons_append, List.append_nil, List.length_cons, List.length_nil, List.length_append, List.length_map, List.replicate_succ, List.replicate_zero, List.all_cons, List.all_nil, if_true, if_false, ite_true, ite_false, Nat.sub_self, Nat.reduceAdd, Nat.reduceSub, Nat.reduceLeDiff, Nat.reduceLT, List.take_succ_cons, List.take_zero, true_and, and_true, not_true, not_false_eq_true, and_self, List.nodup_nil, List.nodup_cons, List.mem_cons, List.not_mem_nil, or_false, false_or, List.map_cons, List.map_nil, List.map_append, Bool.decide_eq_true, Nat.zero_le, Bool.cond_true, Bool.cond_false, ↓reduceIte, reduceCtorEq, Int.reduceLT, Int.reduceLE, Int.reduceNeg, Int.reduceAdd, Int.reduceMul, Int.reduceSub, Int.reduceEq, Nat.reduceEqDiff, Nat.zero_add, id, s_is_term_in, b_is_term_in, isT, l1, l1']
  | _ => simp -implicitDefEqProofs only [kR_r1, kR_r2, kR_r3d, intsD, mFor_ap, kForS_ap, addF_ii, addF_tt, addF_ll, addF_ss, mulF_ii, mulF_tt, mulF_ll, subF_ii, ltF_ii, leF_ii, gtF_ii, geF_ii, modF_ii, divF_ii, powF_ii, cutD_lo, cutD_hi, cutD_mid, cutD_m1, mYes_ap, truD, isi_set_int, isi_set_bool, isi_set_tuple, isi_set_list, isi_set_str, isi_set_dict, mLc_ap, allF_f, anyF_f, isi_non_int, isi_bl_int, isi_int_int, isi_str_int, isi_tup_int, isi_lst_int, isi_dK_int, isi_dT_int, isi_non_bool, isi_bl_bool, isi_int_bool, isi_str_bool, isi_tup_bool, isi_lst_bool, isi_dK_bool, isi_dT_bool, isi_non_tuple, isi_bl_tuple, isi_int_tuple, isi_str_tuple, isi_tup_tuple, isi_lst_tuple, isi_dK_tuple, isi_dT_tuple, isi_non_list, isi_bl_list, isi_int_list, isi_str_list, isi_tup_list, isi_lst_list, isi_dK_list, isi_dT_list, isi_non_str, isi_bl_str, isi_int_str, isi_str_str, isi_tup_str, isi_lst_str, isi_dK_str, isi_dT_str, isi_non_dict, isi_bl_dict, isi_int_dict, isi_str_dict, isi_tup_dict, isi_lst_dict, isi_dK_dict, isi_dT_dict, eqF_int, neF_int, eqF_bl, neF_bl, eqF_T, neF_T, eqF_Tm, neF_Tm, bndR_ok, bndR_none, bnd_ap, ret_ap, stuck_ap, mVar_ap, kVar_fz, kVar_ow, kVar_io, mC_ap, content_val, content_new, content_bor, slD_fz, slD_ow, slD_io, rv_f, rv_t, val_eq, new_eq, kRz_some, kRz_none, kP1_some, prim1_ap, kP2_some, prim2_ap, mBin_ap, kBin_ap, kBin2_ap, mUn_ap, kUn_ap, mTest_ap, kTest_ap, mTruth_ap, kTruth_ap, kTru_some, mNotT_ap, kNot_ap, mAndT_ap, mOrT_ap, kAnd_t, kAnd_f, kOr_t, kOr_f, mIf_ap, mIte_ap, kIf_t, kIf_f, mAndV_ap, mOrV_ap, kAndV_t, kAndV_f, kOrV_t, kOrV_f, mChain_ap, kCh1_ap, kCh2_ap, kCh3_ap, kLink_t, kLink_f, mChain3_ap, kC31_ap, kC32_ap, settle_val, settle_new, settle_bor, kSl_fz, kSl_ow, kOk_some, mD_ap, kD_ap, mCons_ap, kCons1_ap, kCons2_ap, mNil_ap, mStar_ap, kStar_ap, kStar1_some, kStar2_ap, mTup_ap, mLst_ap, kTup_ok, kLst_ok, mDict0_ap, mNoPart_ap, mPart_ap, kPart_ap, mSl_ap, kS1_ap, kS2_ap, kS3_ap, kS4_some, mRNil_ap, mRCons_ap, kR1_ap, kR2_ap, contents_nil, contents_cons, kCts_some, mCallB_ap, kCB_ap, kCB1_some, mArg_ap, kArg_f, kArg_val, kArg_new, kArg_bor, kArB_ow, kArB_io, mANil_ap, mACons_ap, kA1_ap, kA2_ap, mCall_ap, kCall_ap, kCall1_some, kFin_ok, owned_ow, owned_io, owned_fz, slsOf_nil, slsOf_pl, slsOf_tp, slsOf_ob, kOb_some, back_nil, back_pl, back_tp, back_ob, obs_nil, obs_pl, obs_tp, obs_ob, tps_nil, tps_pl, tps_tp, tps_ob, setOwn_ap, kSO_ow, kSO_io, mMut_ap, kMut0_some, kMut_some, mHas_ap, kHas_lst, mAppend_ap, kApp_ap, mPop_ap, mExtend_ap, kExt_ap, kExt1_some, appF_ok, extF_ok, popF_snoc, mSeq_ap, kSeq_nx, kSeq_rt, kSeq_bk, kSeq_ct, mSkip_ap, mBrk_ap, mCnt_ap, mExpr_ap, kDrop_ap, mRet_ap, kRet_val, kRet_new, kRet_bor, kRetB_fz, kRetB_ow, mRetN_ap, kNx_some, mSet_ap, kSet_ap, setSl_ap, kSS_no, kSS_fz, kSS_ow, kSS_pl, z1, z2, z3, z4, z5, z6, z7, z8, z9, z10, z11, z12, z13, z14, z15, z16, z17, z18, z19, z20, ixF_lst0, ixF_lst1, ixF_lst2, ixF_lst3, ixF_lstm, ixF_tup0, ixF_tup1, ixF_tup2, ixF_tup3, ixF_tupm, ixF_rol0, ixF_rol1, ixF_rol2, ixF_rol3, ixF_rolm, setF_0, setF_1, setF_2, setF_3, putRv_val, putRv_new, putRv_bor, noIo_no, noIo_fz, noIo_ow, mAsg_ap, kAsg_ap, gNm_ap, gTp_ap, gsNil_ap, gsCons_ap, mSt_ap, kSt_val, kSt_new, kSt_bor, mPNil_ap, mPCons_ap, kPC1_ap, mPar_ap, kPar_ap, putN_nil, putN_cons, mAug_ap, kAug_fz, kAug1_ap, mSetIx_ap, kIx_ap, kIx1_some, kIx2_ap, kIx3_some, kIx5_some, kIx4_some, setF_ok, mTurn_ap, kTurn_nx, kTurn_ct, kTurn_bk, kTurn_rt, kWh_t, kWh_f, forF_nil, kFor_some, semFn_ap, kFn_rt, kFn_nx, plain_fz, plain_io, mItems_ap, kIt_val, kIt_new, kIt_bor, kItB_fz, kItB_ow, kItB_io, kSrc_some, items_tup, items_lst, items_rol, mRng_ap, kRn_ap, kR_some, plainArg, val, new, negF, notF, lenF, absF, intF, boolF, max2F, min2F, tupleF, listF, fI, fI0, slF, isL, Rz.rv, eq_self, List.getElem?_cons_succ, List.getElem?_cons_zero, List.set_cons_succ, List.set_cons_zero, Option.map_some, Option.map_none, Option.bind_some, decide_true, decide_false, decide_not, Bool.not_true, Bool.not_false, Bool.true_and, Bool.and_true, Bool.false_and, Bool.and_false, Bool.true_or, Bool.or_true, Bool.false_or, Bool.or_false, List.nil_append, List.cons_append, List.append_nil, List.length_cons, List.length_nil, List.length_append, List.length_map, List.replicate_succ, List.replicate_zero, List.all_cons, List.all_nil, if_true, if_false, ite_true, ite_false, Nat.sub_self, Nat.reduceAdd, Nat.reduceSub, Nat.reduceLeDiff, Nat.reduceLT, List.take_succ_cons, List.take_zero, true_and, and_true, not_true, not_false_eq_true, and_self, List.nodup_nil, List.nodup_cons, List.mem_cons, List.not_mem_nil, or_false, false_or, List.map_cons, List.map_nil, List.map_append, Bool.decide_eq_true, Nat.zero_le, Bool.cond_true, Bool.cond_false, ↓reduceIte, reduceCtorEq, Int.reduceLT, Int.reduceLE, Int.reduceNeg, Int.reduceAdd, Int.reduceMul, Int.reduceSub, Int.reduceEq, Nat.reduceEqDiff, Nat.zero_add, id, s_is_term_in, b_is_term_in, isT]
end PL

namespace PL
open PySem L2
theorem is_term_ok {d : D} (h : okV d) (hs : ∀ ds, d = .tup ds → ∀ x ∈ ds, okV x) : s_is_term [.fz d] = some (.ok (false, .bl (isT d)) [.fz d]) := by
  have w := isT_in h hs
  simp -implicitDefEqProofs only [kR_r1, kR_r2, kR_r3d, intsD, mFor_ap, kForS_ap, addF_ii, addF_tt, addF_ll, addF_ss, mulF_ii, mulF_tt, mulF_ll, subF_ii, ltF_ii, leF_ii, gtF_ii, geF_ii, modF_ii, divF_ii, powF_ii, cutD_lo, cutD_hi, cutD_mid, cutD_m1, mYes_ap, truD, isi_set_int, isi_set_bool, isi_set_tuple, isi_set_list, isi_set_str, isi_set_dict, mLc_ap, allF_f, anyF_f, isi_non_int, isi_bl_int, isi_int_int, isi_str_int, isi_tup_int, isi_lst_int, isi_dK_int, isi_dT_int, isi_non_bool, isi_bl_bool, isi_int_bool, isi_str_bool, isi_tup_bool, isi_lst_bool, isi_dK_bool, isi_dT_bool, isi_non_tuple, isi_bl_tuple, isi_int_tuple, isi_str_tuple, isi_tup_tuple, isi_lst_tuple, isi_dK_tuple, isi_dT_tuple, isi_non_list, isi_bl_list, isi_int_list, isi_str_list, isi_tup_list, isi_lst_list, isi_dK_list, isi_dT_list, isi_non_str, isi_bl_str, isi_int_str, isi_str_str, isi_tup_str, isi_lst_str, isi_dK_str, isi_dT_str, isi_non_dict, isi_bl_dict, isi_int_dict, isi_str_dict, isi_tup_dict, isi_lst_dict, isi_dK_dict, isi_dT_dict, eqF_int, neF_int, eqF_bl, neF_bl, eqF_T, neF_T, eqF_Tm, neF_Tm, bndR_ok, bndR_none, bnd_ap, ret_ap, stuck_ap, mVar_ap, kVar_fz, kVar_ow, kVar_io, mC_ap, content_val, content_new, content_bor, slD_fz, slD_ow, slD_io, rv_f, rv_t, val_eq, new_eq, kRz_some, kRz_none, kP1_some, prim1_ap, kP2_some, prim2_ap, mBin_ap, kBin_ap, kBin2_ap, mUn_ap, kUn_ap, mTest_ap, kTest_ap, mTruth_ap, kTruth_ap, kTru_some, mNotT_ap, kNot_ap, mAndT_ap, mOrT_ap, kAnd_t, kAnd_f, kOr_t, kOr_f, mIf_ap, mIte_ap, kIf_t, kIf_f, mAndV_ap, mOrV_ap, kAndV_t, kAndV_f, kOrV_t, kOrV_f, mChain_ap, kCh1_ap, kCh2_ap, kCh3_ap, kLink_t, kLink_f, mChain3_ap, kC31_ap, kC32_ap, settle_val, settle_new, settle_bor, kSl_fz, kSl_ow, kOk_some, mD_ap, kD_ap, mCons_ap, kCons1_ap, kCons2_ap, mNil_ap, mStar_ap, kStar_ap, kStar1_some, kStar2_ap, mTup_ap, mLst_ap, kTup_ok, kLst_ok, mDict0_ap, mNoPart_ap, mPart_ap, kPart_ap, mSl_ap, kS1_ap, kS2_ap, kS3_ap, kS4_some, mRNil_ap, mRCons_ap, kR1_ap, kR2_ap, contents_nil, contents_cons, kCts_some, mCallB_ap, kCB_ap, kCB1_some, mArg_ap, kArg_f, kArg_val, kArg_new, kArg_bor, kArB_ow, kArB_io, mANil_ap, mACons_ap, kA1_ap, kA2_ap, mCall_ap, kCall_ap, kCall1_some, kFin_ok, owned_ow, owned_io, owned_fz, slsOf_nil, slsOf_pl, slsOf_tp, slsOf_ob, kOb_some, back_nil, back_pl, back_tp, back_ob, obs_nil, obs_pl, obs_tp, obs_ob, tps_nil, tps_pl, tps_tp, tps_ob, setOwn_ap, kSO_ow, kSO_io, mMut_ap, kMut0_some, kMut_some, mHas_ap, kHas_lst, mAppend_ap, kApp_ap, mPop_ap, mExtend_ap, kExt_ap, kExt1_some, appF_ok, extF_ok, popF_snoc, mSeq_ap, kSeq_nx, kSeq_rt, kSeq_bk, kSeq_ct, mSkip_ap, mBrk_ap, mCnt_ap, mExpr_ap, kDrop_ap, mRet_ap, kRet_val, kRet_new, kRet_bor, kRetB_fz, kRetB_ow, mRetN_ap, kNx_some, mSet_ap, kSet_ap, setSl_ap, kSS_no, kSS_fz, kSS_ow, kSS_pl, z1, z2, z3, z4, z5, z6, z7, z8, z9, z10, z11, z12, z13, z14, z15, z16, z17, z18, z19, z20, ixF_lst0, ixF_lst1, ixF_lst2, ixF_lst3, ixF_lstm, ixF_tup0, ixF_tup1, ixF_tup2, ixF_tup3, ixF_tupm, ixF_rol0, ixF_rol1, ixF_rol2, ixF_rol3, ixF_rolm, setF_0, setF_1, setF_2, setF_3, putRv_val, putRv_new, putRv_bor, noIo_no, noIo_fz, noIo_ow, mAsg_ap, kAsg_ap, gNm_ap, gTp_ap, gsNil_ap, gsCons_ap, mSt_ap, kSt_val, kSt_new, kSt_bor, mPNil_ap, mPCons_ap, kPC1_ap, mPar_ap, kPar_ap, putN_nil, putN_cons, mAug_ap, kAug_fz, kAug1_ap, mSetIx_ap, kIx_ap, kIx1_some, kIx2_ap, kIx3_some, kIx5_some, kIx4_some, setF_ok, mTurn_ap, kTurn_nx, kTurn_ct, kTurn_bk, kTurn_rt, kWh_t, kWh_f, forF_nil, kFor_some, semFn_ap, kFn_rt, kFn_nx, plain_fz, plain_io, mItems_ap, kIt_val, kIt_new, kIt_bor, kItB_fz, kItB_ow, kItB_io, kSrc_some, items_tup, items_lst, items_rol, mRng_ap, kRn_ap, kR_some, plainArg, val, new, negF, notF, lenF, absF, intF, boolF, max2F, min2F, tupleF, listF, fI, fI0, slF, isL, Rz.rv, eq_self, List.getElem?_cons_succ, List.getElem?_cons_zero, List.set_cons_succ, List.set_cons_zero, Option.map_some, Option.map_none, Option.bind_some, decide_true, decide_false, decide_not, Bool.not_true, Bool.not_false, Bool.true_and, Bool.and_true, Bool.false_and, Bool.and_false, Bool.true_or, Bool.or_true, Bool.false_or, Bool.or_false, List.nil_append, List.cons_append, List.append_nil, List.length_cons, List.length_nil, List.length_append, List.length_map, List.replicate_succ, List.replicate_zero, List.all_cons, List.all_nil, if_true, if_false, ite_true, ite_false, Nat.sub_self, Nat.reduceAdd, Nat.reduceSub, Nat.reduceLeDiff, Nat.reduceLT, List.take_succ_cons, List.take_zero, true_and, and_true, not_true, not_false_eq_true, and_self, List.nodup_nil, List.nodup_cons, List.mem_cons, List.not_mem_nil, or_false, false_or, List.map_cons, List.map_nil, List.map_append, Bool.decide_eq_true, Nat.zero_le, Bool.cond_true, Bool.cond_false, ↓reduceIte, reduceCtorEq, Int.reduceLT, Int.reduceLE, Int.reduceNeg, Int.reduceAdd, Int.reduceMul, Int.reduceSub, Int.reduceEq, Nat.reduceEqDiff, Nat.zero_add, id, s_is_term, b_is_term, w]
/-- this law's own pass -/
def termL : Nat → List D → Bool
  | k, [] => k == 0
  | k, d :: ds => match d with
    | .int c => match k with
      | 0 => false
      | k + 1 => decide (-1 ≤ c) && decide (c ≤ 1000) && termL (if c = 0 then k + 2 else if 0 < c then k else k + 1) ds
    | _ => false
theorem termL_eq : ∀ (ds : List D) (k : Nat), termL k ds = (ds.all codeB && match intsD ds with | some t => shp k t | none => false)
  | [], k => by cases k <;> simp [termL, intsD, shp]
  | d :: ds, k => by
    cases d with
    | int c =>
      cases k with
      | zero =>
        simp only [termL, intsD]
        cases intsD ds <;> simp [shp]
      | succ k =>
        simp only [termL, List.all_cons, codeB, intsD, termL_eq ds]
        cases intsD ds with
        | none => simp
        | some t => simp [shp, Bool.and_assoc]
    | _ => simp [termL, codeB]
theorem law_loop (T0 : D) : ∀ (ds : List D) (k : Nat) (i : Int) (s2 : Sl), i = k → isPl s2 = true → (∀ x ∈ ds, okV x) →
    (termL k ds = false ∧ ∃ s1' s2', forF (gNm 2) w__law_is_term_1 ds [.fz T0, .fz (.int i), s2] = some (.ok (.rt (false, .bl false)) [.fz T0, s1', s2'])) ∨
    ∃ k' s2', termL k ds = decide (k' = (0 : Int)) ∧ forF (gNm 2) w__law_is_term_1 ds [.fz T0, .fz (.int i), s2] = some (.ok .nx [.fz T0, .fz (.int k'), s2'])
  | [], k, i, s2, e, h, _ => .inr ⟨i, s2, by cases k with | zero => simp [termL, e] | succ k => simp [termL, e]; omega, rfl⟩
  | d :: ds, k, i, s2, e, h, ho => by
    have n2 := noIo_pl h
    have od := ho d (by simp)
    have os : ∀ x ∈ ds, okV x := fun x hx => ho x (by simp [hx])
    rw [forF_cons]
    have bad : (forF (gNm 2) w__law_is_term_1 (d :: ds) [.fz T0, .fz (.int i), s2] = forF (gNm 2) w__law_is_term_1 (d :: ds) [.fz T0, .fz (.int i), s2]) := rfl
    cases d with
    | rol _ => obtain ⟨T, h⟩ := od; cases h
    | oth _ => obtain ⟨T, h⟩ := od; cases h
    | int c =>
      by_cases c1 : -1 ≤ c
      · by_cases c2 : c ≤ 1000
        · by_cases k0 : i = 0
          · refine .inl ⟨by have : k = 0 := by omega
                            subst this; rfl, .fz (.int i), .fz (.int c), ?_⟩
            simp -implicitDefEqProofs only [kR_r1, kR_r2, kR_r3d, intsD, mFor_ap, kForS_ap, addF_ii, addF_tt, addF_ll, addF_ss, mulF_ii, mulF_tt, mulF_ll, subF_ii, ltF_ii, leF_ii, gtF_ii, geF_ii, modF_ii, divF_ii, powF_ii, cutD_lo, cutD_hi, cutD_mid, cutD_m1, mYes_ap, truD, isi_set_int, isi_set_bool, isi_set_tuple, isi_set_list, isi_set_str, isi_set_dict, mLc_ap, allF_f, anyF_f, isi_non_int, isi_bl_int, isi_int_int, isi_str_int, isi_tup_int, isi_lst_int, isi_dK_int, isi_dT_int, isi_non_bool, isi_bl_bool, isi_int_bool, isi_str_bool, isi_tup_bool, isi_lst_bool, isi_dK_bool, isi_dT_bool, isi_non_tuple, isi_bl_tuple, isi_int_tuple, isi_str_tuple, isi_tup_tuple, isi_lst_tuple, isi_dK_tuple, isi_dT_tuple, isi_non_list, isi_bl_list, isi_int_list, isi_str_list, isi_tup_list, isi_lst_list, isi_dK_list, isi_dT_list, isi_non_str, isi_bl_str, isi_int_str, isi_str_str, isi_tup_str, isi_lst_str, isi_dK_str, isi_dT_str, isi_non_dict, isi_bl_dict, isi_int_dict, isi_str_dict, isi_tup_dict, isi_lst_dict, isi_dK_dict, isi_dT_dict, eqF_int, neF_int, eqF_bl, neF_bl, eqF_T, neF_T, eqF_Tm, neF_Tm, bndR_ok, bndR_none, bnd_ap, ret_ap, stuck_ap, mVar_ap, kVar_fz, kVar_ow, kVar_io, mC_ap, content_val, content_new, content_bor, slD_fz, slD_ow, slD_io, rv_f, rv_t, val_eq, new_eq, kRz_some, kRz_none, kP1_some, prim1_ap, kP2_some, prim2_ap, mBin_ap, kBin_ap, kBin2_ap, mUn_ap, kUn_ap, mTest_ap, kTest_ap, mTruth_ap, kTruth_ap, kTru_some, mNotT_ap, kNot_ap, mAndT_ap, mOrT_ap, kAnd_t, kAnd_f, kOr_t, kOr_f, mIf_ap, mIte_ap, kIf_t, kIf_f, mAndV_ap, mOrV_ap, kAndV_t, kAndV_f, kOrV_t, kOrV_f, mChain_ap, kCh1_ap, kCh2_ap, kCh3_ap, kLink_t, kLink_f, mChain3_ap, kC31_ap, kC32_ap, settle_val, settle_new, settle_bor, kSl_fz, kSl_ow, kOk_some, mD_ap, kD_ap, mCons_ap, kCons1_ap, kCons2_ap, mNil_ap, mStar_ap, kStar_ap, kStar1_some, kStar2_ap, mTup_ap, mLst_ap, kTup_ok, kLst_ok, mDict0_ap, mNoPart_ap, mPart_ap, kPart_ap, mSl_ap, kS1_ap, kS2_ap, kS3_ap, kS4_some, mRNil_ap, mRCons_ap, kR1_ap, kR2_ap, contents_nil, contents_cons, kCts_some, mCallB_ap, kCB_ap, kCB1_some, mArg_ap, kArg_f, kArg_val, kArg_new, kArg_bor, kArB_ow, kArB_io, mANil_ap, mACons_ap, kA1_ap, kA2_ap, mCall_ap, kCall_ap, kCall1_some, kFin_ok, owned_ow, owned_io, owned_fz, slsOf_nil, slsOf_pl, slsOf_tp, slsOf_ob, kOb_some, back_nil, back_pl, back_tp, back_ob, obs_nil, obs_pl, obs_tp, obs_ob, tps_nil, tps_pl, tps_tp, tps_ob, setOwn_ap, kSO_ow, kSO_io, mMut_ap, kMut0_some, kMut_some, mHas_ap, kHas_lst, mAppend_ap, kApp_ap, mPop_ap, mExtend_ap, kExt_ap, kExt1_some, appF_ok, extF_ok, popF_snoc, mSeq_ap, kSeq_nx, kSeq_rt, kSeq_bk, kSeq_ct, mSkip_ap, mBrk_ap, mCnt_ap, mExpr_ap, kDrop_ap, mRet_ap, kRet_val, kRet_new, kRet_bor, kRetB_fz, kRetB_ow, mRetN_ap, kNx_some, mSet_ap, kSet_ap, setSl_ap, kSS_no, kSS_fz, kSS_ow, kSS_pl, z1, z2, z3, z4, z5, z6, z7, z8, z9, z10, z11, z12, z13, z14, z15, z16, z17, z18, z19, z20, ixF_lst0, ixF_lst1, ixF_lst2, ixF_lst3, ixF_lstm, ixF_tup0, ixF_tup1, ixF_tup2, ixF_tup3, ixF_tupm, ixF_rol0, ixF_rol1, ixF_rol2, ixF_rol3, ixF_rolm, setF_0, setF_1, setF_2, setF_3, putRv_val, putRv_new, putRv_bor, noIo_no, noIo_fz, noIo_ow, mAsg_ap, kAsg_ap, gNm_ap, gTp_ap, gsNil_ap, gsCons_ap, mSt_ap, kSt_val, kSt_new, kSt_bor, mPNil_ap, mPCons_ap, kPC1_ap, mPar_ap, kPar_ap, putN_nil, putN_cons, mAug_ap, kAug_fz, kAug1_ap, mSetIx_ap, kIx_ap, kIx1_some, kIx2_ap, kIx3_some, kIx5_some, kIx4_some, setF_ok, mTurn_ap, kTurn_nx, kTurn_ct, kTurn_bk, kTurn_rt, kWh_t, kWh_f, forF_nil, kFor_some, semFn_ap, kFn_rt, kFn_nx, plain_fz, plain_io, mItems_ap, kIt_val, kIt_new, kIt_bor, kItB_fz, kItB_ow, kItB_io, kSrc_some, items_tup, items_lst, items_rol, mRng_ap, kRn_ap, kR_some, plainArg, val, new, negF, notF, lenF, absF, intF, boolF, max2F, min2F, tupleF, listF, fI, fI0, slF, isL, Rz.rv, eq_self, List.getElem?_cons_succ, List.getElem?_cons_zero, List.set_cons_succ, List.set_cons_zero, Option.map_some, Option.map_none, Option.bind_some, decide_true, decide_false, decide_not, Bool.not_true, Bool.not_false, Bool.true_and, Bool.and_true, Bool.false_and, Bool.and_false, Bool.true_or, Bool.or_true, Bool.false_or, Bool.or_false, List.nil_append, List.cons_append, List.append_nil, List.length_cons, List.length_nil, List.length_append, List.length_map, List.replicate_succ, List.replicate_zero, List.all_cons, List.all_nil, if_true, if_false, ite_true, ite_false, Nat.sub_self, Nat.reduceAdd, Nat.reduceSub, Nat.reduceLeDiff, Nat.reduceLT, List.take_succ_cons, List.take_zero, true_and, and_true, not_true, not_false_eq_true, and_self, List.nodup_nil, List.nodup_cons, List.mem_cons, List.not_mem_nil, or_false, false_or, List.map_cons, List.map_nil, List.map_append, Bool.decide_eq_true, Nat.zero_le, Bool.cond_true, Bool.cond_false, ↓reduceIte, reduceCtorEq, Int.reduceLT, Int.reduceLE, Int.reduceNeg, Int.reduceAdd, Int.reduceMul, Int.reduceSub, Int.reduceEq, Nat.reduceEqDiff, Nat.zero_add, id, n2, w__law_is_term_1, k0, c1, c2]
          · obtain ⟨k1, rfl⟩ : ∃ k1, k = k1 + 1 := ⟨k - 1, by omega⟩
            by_cases c0 : c = 0
            · rw [show termL (k1 + 1) (.int c :: ds) = termL (k1 + 2) ds by simp [termL, c0]]
              have ih := law_loop T0 ds (k1 + 2) (i + 1) (.fz (.int c)) (by omega) rfl os
              subst c0
              have z : ¬ (0 : Int) < 0 := by omega
              simp -implicitDefEqProofs only [kR_r1, kR_r2, kR_r3d, intsD, mFor_ap, kForS_ap, addF_ii, addF_tt, addF_ll, addF_ss, mulF_ii, mulF_tt, mulF_ll, subF_ii, ltF_ii, leF_ii, gtF_ii, geF_ii, modF_ii, divF_ii, powF_ii, cutD_lo, cutD_hi, cutD_mid, cutD_m1, mYes_ap, truD, isi_set_int, isi_set_bool, isi_set_tuple, isi_set_list, isi_set_str, isi_set_dict, mLc_ap, allF_f, anyF_f, isi_non_int, isi_bl_int, isi_int_int, isi_str_int, isi_tup_int, isi_lst_int, isi_dK_int, isi_dT_int, isi_non_bool, isi_bl_bool, isi_int_bool, isi_str_bool, isi_tup_bool, isi_lst_bool, isi_dK_bool, isi_dT_bool, isi_non_tuple, isi_bl_tuple, isi_int_tuple, isi_str_tuple, isi_tup_tuple, isi_lst_tuple, isi_dK_tuple, isi_dT_tuple, isi_non_list, isi_bl_list, isi_int_list, isi_str_list, isi_tup_list, isi_lst_list, isi_dK_list, isi_dT_list, isi_non_str, isi_bl_str, isi_int_str, isi_str_str, isi_tup_str, isi_lst_str, isi_dK_str, isi_dT_str, isi_non_dict, isi_bl_dict, isi_int_dict, isi_str_dict, isi_tup_dict, isi_lst_dict, isi_dK_dict, isi_dT_dict, eqF_int, neF_int, eqF_bl, neF_bl, eqF_T, neF_T, eqF_Tm, neF_Tm, bndR_ok, bndR_none, bnd_ap, ret_ap, stuck_ap, mVar_ap, kVar_fz, kVar_ow, kVar_io, mC_ap, content_val, content_new, content_bor, slD_fz, slD_ow, slD_io, rv_f, rv_t, val_eq, new_eq, kRz_some, kRz_none, kP1_some, prim1_ap, kP2_some, prim2_ap, mBin_ap, kBin_ap, kBin2_ap, mUn_ap, kUn_ap, mTest_ap, kTest_ap, mTruth_ap, kTruth_ap, kTru_some, mNotT_ap, kNot_ap, mAndT_ap, mOrT_ap, kAnd_t, kAnd_f, kOr_t, kOr_f, mIf_ap, mIte_ap, kIf_t, kIf_f, mAndV_ap, mOrV_ap, kAndV_t, kAndV_f, kOrV_t, kOrV_f, mChain_ap, kCh1_ap, kCh2_ap, kCh3_ap, kLink_t, kLink_f, mChain3_ap, kC31_ap, kC32_ap, settle_val, settle_new, settle_bor, kSl_fz, kSl_ow, kOk_some, mD_ap, kD_ap, mCons_ap, kCons1_ap, kCons2_ap, mNil_ap, mStar_ap, kStar_ap, kStar1_some, kStar2_ap, mTup_ap, mLst_ap, kTup_ok, kLst_ok, mDict0_ap, mNoPart_ap, mPart_ap, kPart_ap, mSl_ap, kS1_ap, kS2_ap, kS3_ap, kS4_some, mRNil_ap, mRCons_ap, kR1_ap, kR2_ap, contents_nil, contents_cons, kCts_some, mCallB_ap, kCB_ap, kCB1_some, mArg_ap, kArg_f, kArg_val, kArg_new, kArg_bor, kArB_ow, kArB_io, mANil_ap, mACons_ap, kA1_ap, kA2_ap, mCall_ap, kCall_ap, kCall1_some, kFin_ok, owned_ow, owned_io, owned_fz, slsOf_nil, slsOf_pl, slsOf_tp, slsOf_ob, kOb_some, back_nil, back_pl, back_tp, back_ob, obs_nil, obs_pl, obs_tp, obs_ob, tps_nil, tps_pl, tps_tp, tps_ob, setOwn_ap, kSO_ow, kSO_io, mMut_ap, kMut0_some, kMut_some, mHas_ap, kHas_lst, mAppend_ap, kApp_ap, mPop_ap, mExtend_ap, kExt_ap, kExt1_some, appF_ok, extF_ok, popF_snoc, mSeq_ap, kSeq_nx, kSeq_rt, kSeq_bk, kSeq_ct, mSkip_ap, mBrk_ap, mCnt_ap, mExpr_ap, kDrop_ap, mRet_ap, kRet_val, kRet_new, kRet_bor, kRetB_fz, kRetB_ow, mRetN_ap, kNx_some, mSet_ap, kSet_ap, setSl_ap, kSS_no, kSS_fz, kSS_ow, kSS_pl, z1, z2, z3, z4, z5, z6, z7, z8, z9, z10, z11, z12, z13, z14, z15, z16, z17, z18, z19, z20, ixF_lst0, ixF_lst1, ixF_lst2, ixF_lst3, ixF_lstm, ixF_tup0, ixF_tup1, ixF_tup2, ixF_tup3, ixF_tupm, ixF_rol0, ixF_rol1, ixF_rol2, ixF_rol3, ixF_rolm, setF_0, setF_1, setF_2, setF_3, putRv_val, putRv_new, putRv_bor, noIo_no, noIo_fz, noIo_ow, mAsg_ap, kAsg_ap, gNm_ap, gTp_ap, gsNil_ap, gsCons_ap, mSt_ap, kSt_val, kSt_new, kSt_bor, mPNil_ap, mPCons_ap, kPC1_ap, mPar_ap, kPar_ap, putN_nil, putN_cons, mAug_ap, kAug_fz, kAug1_ap, mSetIx_ap, kIx_ap, kIx1_some, kIx2_ap, kIx3_some, kIx5_some, kIx4_some, setF_ok, mTurn_ap, kTurn_nx, kTurn_ct, kTurn_bk, kTurn_rt, kWh_t, kWh_f, forF_nil, kFor_some, semFn_ap, kFn_rt, kFn_nx, plain_fz, plain_io, mItems_ap, kIt_val, kIt_new, kIt_bor, kItB_fz, kItB_ow, kItB_io, kSrc_some, items_tup, items_lst, items_rol, mRng_ap, kRn_ap, kR_some, plainArg, val, new, negF, notF, lenF, absF, intF, boolF, max2F, min2F, tupleF, listF, fI, fI0, slF, isL, Rz.rv, eq_self, List.getElem?_cons_succ, List.getElem?_cons_zero, List.set_cons_succ, List.set_cons_zero, Option.map_some, Option.map_none, Option.bind_some, decide_true, decide_false, decide_not, Bool.not_true, Bool.not_false, Bool.true_and, Bool.and_true, Bool.false_and, Bool.and_false, Bool.true_or, Bool.or_true, Bool.false_or, Bool.or_false, List.nil_append, List.cons_append, List.append_nil, List.length_cons, List.length_nil, List.length_append, List.length_map, List.replicate_succ, List.replicate_zero, List.all_cons, List.all_nil, if_true, if_false, ite_true, ite_false, Nat.sub_self, Nat.reduceAdd, Nat.reduceSub, Nat.reduceLeDiff, Nat.reduceLT, List.take_succ_cons, List.take_zero, true_and, and_true, not_true, not_false_eq_true, and_self, List.nodup_nil, List.nodup_cons, List.mem_cons, List.not_mem_nil, or_false, false_or, List.map_cons, List.map_nil, List.map_append, Bool.decide_eq_true, Nat.zero_le, Bool.cond_true, Bool.cond_false, ↓reduceIte, reduceCtorEq, Int.reduceLT, Int.reduceLE, Int.reduceNeg, Int.reduceAdd, Int.reduceMul, Int.reduceSub, Int.reduceEq, Nat.reduceEqDiff, Nat.zero_add, id, n2, w__law_is_term_1, k0, z, c1, c2]
              exact ih
            · by_cases cp : 0 < c
              · rw [show termL (k1 + 1) (.int c :: ds) = termL k1 ds by simp [termL, c0, c1, c2, cp]]
                have ih := law_loop T0 ds k1 (i - 1) (.fz (.int c)) (by omega) rfl os
                simp -implicitDefEqProofs only [kR_r1, kR_r2, kR_r3d, intsD, mFor_ap, kForS_ap, addF_ii, addF_tt, addF_ll, addF_ss, mulF_ii, mulF_tt, mulF_ll, subF_ii, ltF_ii, leF_ii, gtF_ii, geF_ii, modF_ii, divF_ii, powF_ii, cutD_lo, cutD_hi, cutD_mid, cutD_m1, mYes_ap, truD, isi_set_int, isi_set_bool, isi_set_tuple, isi_set_list, isi_set_str, isi_set_dict, mLc_ap, allF_f, anyF_f, isi_non_int, isi_bl_int, isi_int_int, isi_str_int, isi_tup_int, isi_lst_int, isi_dK_int, isi_dT_int, isi_non_bool, isi_bl_bool, isi_int_bool, isi_str_bool, isi_tup_bool, isi_lst_bool, isi_dK_bool, isi_dT_bool, isi_non_tuple, isi_bl_tuple, isi_int_tuple, isi_str_tuple, isi_tup_tuple, isi_lst_tuple, isi_dK_tuple, isi_dT_tuple, isi_non_list, isi_bl_list, isi_int_list, isi_str_list, isi_tup_list, isi_lst_list, isi_dK_list, isi_dT_list, isi_non_str, isi_bl_str, isi_int_str, isi_str_str, isi_tup_str, isi_lst_str, isi_dK_str, isi_dT_str, isi_non_dict, isi_bl_dict, isi_int_dict, isi_str_dict, isi_tup_dict, isi_lst_dict, isi_dK_dict, isi_dT_dict, eqF_int, neF_int, eqF_bl, neF_bl, eqF_T, neF_T, eqF_Tm, neF_Tm, bndR_ok, bndR_none, bnd_ap, ret_ap, stuck_ap, mVar_ap, kVar_fz, kVar_ow, kVar_io, mC_ap, content_val, content_new, content_bor, slD_fz, slD_ow, slD_io, rv_f, rv_t, val_eq, new_eq, kRz_some, kRz_none, kP1_some, prim1_ap, kP2_some, prim2_ap, mBin_ap, kBin_ap, kBin2_ap, mUn_ap, kUn_ap, mTest_ap, kTest_ap, mTruth_ap, kTruth_ap, kTru_some, mNotT_ap, kNot_ap, mAndT_ap, mOrT_ap, kAnd_t, kAnd_f, kOr_t, kOr_f, mIf_ap, mIte_ap, kIf_t, kIf_f, mAndV_ap, mOrV_ap, kAndV_t, kAndV_f, kOrV_t, kOrV_f, mChain_ap, kCh1_ap, kCh2_ap, kCh3_ap, kLink_t, kLink_f, mChain3_ap, kC31_ap, kC32_ap, settle_val, settle_new, settle_bor, kSl_fz, kSl_ow, kOk_some, mD_ap, kD_ap, mCons_ap, kCons1_ap, kCons2_ap, mNil_ap, mStar_ap, kStar_ap, kStar1_some, kStar2_ap, mTup_ap, mLst_ap, kTup_ok, kLst_ok, mDict0_ap, mNoPart_ap, mPart_ap, kPart_ap, mSl_ap, kS1_ap, kS2_ap, kS3_ap, kS4_some, mRNil_ap, mRCons_ap, kR1_ap, kR2_ap, contents_nil, contents_cons, kCts_some, mCallB_ap, kCB_ap, kCB1_some, mArg_ap, kArg_f, kArg_val, kArg_new, kArg_bor, kArB_ow, kArB_io, mANil_ap, mACons_ap, kA1_ap, kA2_ap, mCall_ap, kCall_ap, kCall1_some, kFin_ok, owned_ow, owned_io, owned_fz, slsOf_nil, slsOf_pl, slsOf_tp, slsOf_ob, kOb_some, back_nil, back_pl, back_tp, back_ob, obs_nil, obs_pl, obs_tp, obs_ob, tps_nil, tps_pl, tps_tp, tps_ob, setOwn_ap, kSO_ow, kSO_io, mMut_ap, kMut0_some, kMut_some, mHas_ap, kHas_lst, mAppend_ap, kApp_ap, mPop_ap, mExtend_ap, kExt_ap, kExt1_some, appF_ok, extF_ok, popF_snoc, mSeq_ap, kSeq_nx, kSeq_rt, kSeq_bk, kSeq_ct, mSkip_ap, mBrk_ap, mCnt_ap, mExpr_ap, kDrop_ap, mRet_ap, kRet_val, kRet_new, kRet_bor, kRetB_fz, kRetB_ow, mRetN_ap, kNx_some, mSet_ap, kSet_ap, setSl_ap, kSS_no, kSS_fz, kSS_ow, kSS_pl, z1, z2, z3, z4, z5, z6, z7, z8, z9, z10, z11, z12, z13, z14, z15, z16, z17, z18, z19, z20, ixF_lst0, ixF_lst1, ixF_lst2, ixF_lst3, ixF_lstm, ixF_tup0, ixF_tup1, ixF_tup2, ixF_tup3, ixF_tupm, ixF_rol0, ixF_rol1, ixF_rol2, ixF_rol3, ixF_rolm, setF_0, setF_1, setF_2, setF_3, putRv_val, putRv_new, putRv_bor, noIo_no, noIo_fz, noIo_ow, mAsg_ap, kAsg_ap, gNm_ap, gTp_ap, gsNil_ap, gsCons_ap, mSt_ap, kSt_val, kSt_new, kSt_bor, mPNil_ap, mPCons_ap, kPC1_ap, mPar_ap, kPar_ap, putN_nil, putN_cons, mAug_ap, kAug_fz, kAug1_ap, mSetIx_ap, kIx_ap, kIx1_some, kIx2_ap, kIx3_some, kIx5_some, kIx4_some, setF_ok, mTurn_ap, kTurn_nx, kTurn_ct, kTurn_bk, kTurn_rt, kWh_t, kWh_f, forF_nil, kFor_some, semFn_ap, kFn_rt, kFn_nx, plain_fz, plain_io, mItems_ap, kIt_val, kIt_new, kIt_bor, kItB_fz, kItB_ow, kItB_io, kSrc_some, items_tup, items_lst, items_rol, mRng_ap, kRn_ap, kR_some, plainArg, val, new, negF, notF, lenF, absF, intF, boolF, max2F, min2F, tupleF, listF, fI, fI0, slF, isL, Rz.rv, eq_self, List.getElem?_cons_succ, List.getElem?_cons_zero, List.set_cons_succ, List.set_cons_zero, Option.map_some, Option.map_none, Option.bind_some, decide_true, decide_false, decide_not, Bool.not_true, Bool.not_false, Bool.true_and, Bool.and_true, Bool.false_and, Bool.and_false, Bool.true_or, Bool.or_true, Bool.false_or, Bool.or_false, List.nil_append, List.cons_append, List.append_nil, List.length_cons, List.length_nil, List.length_append, List.length_map, List.replicate_succ, List.replicate_zero, List.all_cons, List.all_nil, if_true, if_false, ite_true, ite_false, Nat.sub_self, Nat.reduceAdd, Nat.reduceSub, Nat.reduceLeDiff, Nat.reduceLT, List.take_succ_cons, List.take_zero, true_and, and_true, not_true, not_false_eq_true, and_self, List.nodup_nil, List.nodup_cons, List.mem_cons, List.not_mem_nil, or_false, false_or, List.map_cons, List.map_nil, List.map_append, Bool.decide_eq_true, Nat.zero_le, Bool.cond_true, Bool.cond_false, ↓reduceIte, reduceCtorEq, Int.reduceLT, Int.reduceLE, Int.reduceNeg, Int.reduceAdd, Int.reduceMul, Int.reduceSub, Int.reduceEq, Nat.reduceEqDiff, Nat.zero_add, id, n2, w__law_is_term_1, k0, c0, c1, c2, cp]
                exact ih
              · rw [show termL (k1 + 1) (.int c :: ds) = termL (k1 + 1) ds by simp [termL, c0, c1, c2, cp]]
                have ih := law_loop T0 ds (k1 + 1) i (.fz (.int c)) e rfl os
                simp -implicitDefEqProofs only [kR_r1, kR_r2, kR_r3d, intsD, mFor_ap, kForS_ap, addF_ii, addF_tt, addF_ll, addF_ss, mulF_ii, mulF_tt, mulF_ll, subF_ii, ltF_ii, leF_ii, gtF_ii, geF_ii, modF_ii, divF_ii, powF_ii, cutD_lo, cutD_hi, cutD_mid, cutD_m1, mYes_ap, truD, isi_set_int, isi_set_bool, isi_set_tuple, isi_set_list, isi_set_str, isi_set_dict, mLc_ap, allF_f, anyF_f, isi_non_int, isi_bl_int, isi_int_int, isi_str_int, isi_tup_int, isi_lst_int, isi_dK_int, isi_dT_int, isi_non_bool, isi_bl_bool, isi_int_bool, isi_str_bool, isi_tup_bool, isi_lst_bool, isi_dK_bool, isi_dT_bool, isi_non_tuple, isi_bl_tuple, isi_int_tuple, isi_str_tuple, isi_tup_tuple, isi_lst_tuple, isi_dK_tuple, isi_dT_tuple, isi_non_list, isi_bl_list, isi_int_list, isi_str_list, isi_tup_list, isi_lst_list, isi_dK_list, isi_dT_list, isi_non_str, isi_bl_str, isi_int_str, isi_str_str, isi_tup_str, isi_lst_str, isi_dK_str, isi_dT_str, isi_non_dict, isi_bl_dict, isi_int_dict, isi_str_dict, isi_tup_dict, isi_lst_dict, isi_dK_dict, isi_dT_dict, eqF_int, neF_int, eqF_bl, neF_bl, eqF_T, neF_T, eqF_Tm, neF_Tm, bndR_ok, bndR_none, bnd_ap, ret_ap, stuck_ap, mVar_ap, kVar_fz, kVar_ow, kVar_io, mC_ap, content_val, content_new, content_bor, slD_fz, slD_ow, slD_io, rv_f, rv_t, val_eq, new_eq, kRz_some, kRz_none, kP1_some, prim1_ap, kP2_some, prim2_ap, mBin_ap, kBin_ap, kBin2_ap, mUn_ap, kUn_ap, mTest_ap, kTest_ap, mTruth_ap, kTruth_ap, kTru_some, mNotT_ap, kNot_ap, mAndT_ap, mOrT_ap, kAnd_t, kAnd_f, kOr_t, kOr_f, mIf_ap, mIte_ap, kIf_t, kIf_f, mAndV_ap, mOrV_ap, kAndV_t, kAndV_f, kOrV_t, kOrV_f, mChain_ap, kCh1_ap, kCh2_ap, kCh3_ap, kLink_t, kLink_f, mChain3_ap, kC31_ap, kC32_ap, settle_val, settle_new, settle_bor, kSl_fz, kSl_ow, kOk_some, mD_ap, kD_ap, mCons_ap, kCons1_ap, kCons2_ap, mNil_ap, mStar_ap, kStar_ap, kStar1_some, kStar2_ap, mTup_ap, mLst_ap, kTup_ok, kLst_ok, mDict0_ap, mNoPart_ap, mPart_ap, kPart_ap, mSl_ap, kS1_ap, kS2_ap, kS3_ap, kS4_some, mRNil_ap, mRCons_ap, kR1_ap, kR2_ap, contents_nil, contents_cons, kCts_some, mCallB_ap, kCB_ap, kCB1_some, mArg_ap, kArg_f, kArg_val, kArg_new, kArg_bor, kArB_ow, kArB_io, mANil_ap, mACons_ap, kA1_ap, kA2_ap, mCall_ap, kCall_ap, kCall1_some, kFin_ok, owned_ow, owned_io, owned_fz, slsOf_nil, slsOf_pl, slsOf_tp, slsOf_ob, kOb_some, back_nil, back_pl, back_tp, back_ob, obs_nil, obs_pl, obs_tp, obs_ob, tps_nil, tps_pl, tps_tp, tps_ob, setOwn_ap, kSO_ow, kSO_io, mMut_ap, kMut0_some, kMut_some, mHas_ap, kHas_lst, mAppend_ap, kApp_ap, mPop_ap, mExtend_ap, kExt_ap, kExt1_some, appF_ok, extF_ok, popF_snoc, mSeq_ap, kSeq_nx, kSeq_rt, kSeq_bk, kSeq_ct, mSkip_ap, mBrk_ap, mCnt_ap, mExpr_ap, kDrop_ap, mRet_ap, kRet_val, kRet_new, kRet_bor, kRetB_fz, kRetB_ow, mRetN_ap, kNx_some, mSet_ap, kSet_ap, setSl_ap, kSS_no, kSS_fz, kSS_ow, kSS_pl, z1, z2, z3, z4, z5, z6, z7, z8, z9, z10, z11, z12, z13, z14, z15, z16, z17, z18, z19, z20, ixF_lst0, ixF_lst1, ixF_lst2, ixF_lst3, ixF_lstm, ixF_tup0, ixF_tup1, ixF_tup2, ixF_tup3, ixF_tupm, ixF_rol0, ixF_rol1, ixF_rol2, ixF_rol3, ixF_rolm, setF_0, setF_1, setF_2, setF_3, putRv_val, putRv_new, putRv_bor, noIo_no, noIo_fz, noIo_ow, mAsg_ap, kAsg_ap, gNm_ap, gTp_ap, gsNil_ap, gsCons_ap, mSt_ap, kSt_val, kSt_new, kSt_bor, mPNil_ap, mPCons_ap, kPC1_ap, mPar_ap, kPar_ap, putN_nil, putN_cons, mAug_ap, kAug_fz, kAug1_ap, mSetIx_ap, kIx_ap, kIx1_some, kIx2_ap, kIx3_some, kIx5_some, kIx4_some, setF_ok, mTurn_ap, kTurn_nx, kTurn_ct, kTurn_bk, kTurn_rt, kWh_t, kWh_f, forF_nil, kFor_some, semFn_ap, kFn_rt, kFn_nx, plain_fz, plain_io, mItems_ap, kIt_val, kIt_new, kIt_bor, kItB_fz, kItB_ow, kItB_io, kSrc_some, items_tup, items_lst, items_rol, mRng_ap, kRn_ap, kR_some, plainArg, val, new, negF, notF, lenF, absF, intF, boolF, max2F, min2F, tupleF, listF, fI, fI0, slF, isL, Rz.rv, eq_self, List.getElem?_cons_succ, List.getElem?_cons_zero, List.set_cons_succ, List.set_cons_zero, Option.map_some, Option.map_none, Option.bind_some, decide_true, decide_false, decide_not, Bool.not_true, Bool.not_false, Bool.true_and, Bool.and_true, Bool.false_and, Bool.and_false, Bool.true_or, Bool.or_true, Bool.false_or, Bool.or_false, List.nil_append, List.cons_append, List.append_nil, List.length_cons, List.length_nil, List.length_append, List.length_map, List.replicate_succ, List.replicate_zero, List.all_cons, List.all_nil, if_true, if_false, ite_true, ite_false, Nat.sub_self, Nat.reduceAdd, Nat.reduceSub, Nat.reduceLeDiff, Nat.reduceLT, List.take_succ_cons, List.take_zero, true_and, and_true, not_true, not_false_eq_true, and_self, List.nodup_nil, List.nodup_cons, List.mem_cons, List.not_mem_nil, or_false, false_or, List.map_cons, List.map_nil, List.map_append, Bool.decide_eq_true, Nat.zero_le, Bool.cond_true, Bool.cond_false, ↓reduceIte, reduceCtorEq, Int.reduceLT, Int.reduceLE, Int.reduceNeg, Int.reduceAdd, Int.reduceMul, Int.reduceSub, Int.reduceEq, Nat.reduceEqDiff, Nat.zero_add, id, n2, w__law_is_term_1, k0, c0, c1, c2, cp]
                exact ih
        · refine .inl ⟨by cases k <;> simp [termL, c2], .fz (.int i), .fz (.int c), ?_⟩
          simp -implicitDefEqProofs only [kR_r1, kR_r2, kR_r3d, intsD, mFor_ap, kForS_ap, addF_ii, addF_tt, addF_ll, addF_ss, mulF_ii, mulF_tt, mulF_ll, subF_ii, ltF_ii, leF_ii, gtF_ii, geF_ii, modF_ii, divF_ii, powF_ii, cutD_lo, cutD_hi, cutD_mid, cutD_m1, mYes_ap, truD, isi_set_int, isi_set_bool, isi_set_tuple, isi_set_list, isi_set_str, isi_set_dict, mLc_ap, allF_f, anyF_f, isi_non_int, isi_bl_int, isi_int_int, isi_str_int, isi_tup_int, isi_lst_int, isi_dK_int, isi_dT_int, isi_non_bool, isi_bl_bool, isi_int_bool, isi_str_bool, isi_tup_bool, isi_lst_bool, isi_dK_bool, isi_dT_bool, isi_non_tuple, isi_bl_tuple, isi_int_tuple, isi_str_tuple, isi_tup_tuple, isi_lst_tuple, isi_dK_tuple, isi_dT_tuple, isi_non_list, isi_bl_list, isi_int_list, isi_str_list, isi_tup_list, isi_lst_list, isi_dK_list, isi_dT_list, isi_non_str, isi_bl_str, isi_int_str, isi_str_str, isi_tup_str, isi_lst_str, isi_dK_str, isi_dT_str, isi_non_dict, isi_bl_dict, isi_int_dict, isi_str_dict, isi_tup_dict, isi_lst_dict, isi_dK_dict, isi_dT_dict, eqF_int, neF_int, eqF_bl, neF_bl, eqF_T, neF_T, eqF_Tm, neF_Tm, bndR_ok, bndR_none, bnd_ap, ret_ap, stuck_ap, mVar_ap, kVar_fz, kVar_ow, kVar_io, mC_ap, content_val, content_new, content_bor, slD_fz, slD_ow, slD_io, rv_f, rv_t, val_eq, new_eq, kRz_some, kRz_none, kP1_some, prim1_ap, kP2_some, prim2_ap, mBin_ap, kBin_ap, kBin2_ap, mUn_ap, kUn_ap, mTest_ap, kTest_ap, mTruth_ap, kTruth_ap, kTru_some, mNotT_ap, kNot_ap, mAndT_ap, mOrT_ap, kAnd_t, kAnd_f, kOr_t, kOr_f, mIf_ap, mIte_ap, kIf_t, kIf_f, mAndV_ap, mOrV_ap, kAndV_t, kAndV_f, kOrV_t, kOrV_f, mChain_ap, kCh1_ap, kCh2_ap, kCh3_ap, kLink_t, kLink_f, mChain3_ap, kC31_ap, kC32_ap, settle_val, settle_new, settle_bor, kSl_fz, kSl_ow, kOk_some, mD_ap, kD_ap, mCons_ap, kCons1_ap, kCons2_ap, mNil_ap, mStar_ap, kStar_ap, kStar1_some, kStar2_ap, mTup_ap, mLst_ap, kTup_ok, kLst_ok, mDict0_ap, mNoPart_ap, mPart_ap, kPart_ap, mSl_ap, kS1_ap, kS2_ap, kS3_ap, kS4_some, mRNil_ap, mRCons_ap, kR1_ap, kR2_ap, contents_nil, contents_cons, kCts_some, mCallB_ap, kCB_ap, kCB1_some, mArg_ap, kArg_f, kArg_val, kArg_new, kArg_bor, kArB_ow, kArB_io, mANil_ap, mACons_ap, kA1_ap, kA2_ap, mCall_ap, kCall_ap, kCall1_some, kFin_ok, owned_ow, owned_io, owned_fz, slsOf_nil, slsOf_pl, slsOf_tp, slsOf_ob, kOb_some, back_nil, back_pl, back_tp, back_ob, obs_nil, obs_pl, obs_tp, obs_ob, tps_nil, tps_pl, tps_tp, tps_ob, setOwn_ap, kSO_ow, kSO_io, mMut_ap, kMut0_some, kMut_some, mHas_ap, kHas_lst, mAppend_ap, kApp_ap, mPop_ap, mExtend_ap, kExt_ap, kExt1_some, appF_ok, extF_ok, popF_snoc, mSeq_ap, kSeq_nx, kSeq_rt, kSeq_bk, kSeq_ct, mSkip_ap, mBrk_ap, mCnt_ap, mExpr_ap, kDrop_ap, mRet_ap, kRet_val, kRet_new, kRet_bor, kRetB_fz, kRetB_ow, mRetN_ap, kNx_some, mSet_ap, kSet_ap, setSl_ap, kSS_no, kSS_fz, kSS_ow, kSS_pl, z1, z2, z3, z4, z5, z6, z7, z8, z9, z10, z11, z12, z13, z14, z15, z16, z17, z18, z19, z20, ixF_lst0, ixF_lst1, ixF_lst2, ixF_lst3, ixF_lstm, ixF_tup0, ixF_tup1, ixF_tup2, ixF_tup3, ixF_tupm, ixF_rol0, ixF_rol1, ixF_rol2, ixF_rol3, ixF_rolm, setF_0, setF_1, setF_2, setF_3, putRv_val, putRv_new, putRv_bor, noIo_no, noIo_fz, noIo_ow, mAsg_ap, kAsg_ap, gNm_ap, gTp_ap, gsNil_ap, gsCons_ap, mSt_ap, kSt_val, kSt_new, kSt_bor, mPNil_ap, mPCons_ap, kPC1_ap, mPar_ap, kPar_ap, putN_nil, putN_cons, mAug_ap, kAug_fz, kAug1_ap, mSetIx_ap, kIx_ap, kIx1_some, kIx2_ap, kIx3_some, kIx5_some, kIx4_some, setF_ok, mTurn_ap, kTurn_nx, kTurn_ct, kTurn_bk, kTurn_rt, kWh_t, kWh_f, forF_nil, kFor_some, semFn_ap, kFn_rt, kFn_nx, plain_fz, plain_io, mItems_ap, kIt_val, kIt_new, kIt_bor, kItB_fz, kItB_ow, kItB_io, kSrc_some, items_tup, items_lst, items_rol, mRng_ap, kRn_ap, kR_some, plainArg, val, new, negF, notF, lenF, absF, intF, boolF, max2F, min2F, tupleF, listF, fI, fI0, slF, isL, Rz.rv, eq_self, List.getElem?_cons_succ, List.getElem?_cons_zero, List.set_cons_succ, List.set_cons_zero, Option.map_some, Option.map_none, Option.bind_some, decide_true, decide_false, decide_not, Bool.not_true, Bool.not_false, Bool.true_and, Bool.and_true, Bool.false_and, Bool.and_false, Bool.true_or, Bool.or_true, Bool.false_or, Bool.or_false, List.nil_append, List.cons_append, List.append_nil, List.length_cons, List.length_nil, List.length_append, List.length_map, List.replicate_succ, List.replicate_zero, List.all_cons, List.all_nil, if_true, if_false, ite_true, ite_false, Nat.sub_self, Nat.reduceAdd, Nat.reduceSub, Nat.reduceLeDiff, Nat.reduceLT, List.take_succ_cons, List.take_zero, true_and, and_true, not_true, not_false_eq_true, and_self, List.nodup_nil, List.nodup_cons, List.mem_cons, List.not_mem_nil, or_false, false_or, List.map_cons, List.map_nil, List.map_append, Bool.decide_eq_true, Nat.zero_le, Bool.cond_true, Bool.cond_false, ↓reduceIte, reduceCtorEq, Int.reduceLT, Int.reduceLE, Int.reduceNeg, Int.reduceAdd, Int.reduceMul, Int.reduceSub, Int.reduceEq, Nat.reduceEqDiff, Nat.zero_add, id, n2, w__law_is_term_1, c1, c2]
      · refine .inl ⟨by cases k <;> simp [termL, c1], .fz (.int i), .fz (.int c), ?_⟩
        simp -implicitDefEqProofs only [kR_r1, kR_r2, kR_r3d, intsD, mFor_ap, kForS_ap, addF_ii, addF_tt, addF_ll, addF_ss, mulF_ii, mulF_tt, mulF_ll, subF_ii, ltF_ii, leF_ii, gtF_ii, geF_ii, modF_ii, divF_ii, powF_ii, cutD_lo, cutD_hi, cutD_mid, cutD_m1, mYes_ap, truD, isi_set_int, isi_set_bool, isi_set_tuple, isi_set_list, isi_set_str, isi_set_dict, mLc_ap, allF_f, anyF_f, isi_non_int, isi_bl_int, isi_int_int, isi_str_int, isi_tup_int, isi_lst_int, isi_dK_int, isi_dT_int, isi_non_bool, isi_bl_bool, isi_int_bool, isi_str_bool, isi_tup_bool, isi_lst_bool, isi_dK_bool, isi_dT_bool, isi_non_tuple, isi_bl_tuple, isi_int_tuple, isi_str_tuple, isi_tup_tuple, isi_lst_tuple, isi_dK_tuple, isi_dT_tuple, isi_non_list, isi_bl_list, isi_int_list, isi_str_list, isi_tup_list, isi_lst_list, isi_dK_list, isi_dT_list, isi_non_str, isi_bl_str, isi_int_str, isi_str_str, isi_tup_str, isi_lst_str, isi_dK_str, isi_dT_str, isi_non_dict, isi_bl_dict, isi_int_dict, isi_str_dict, isi_tup_dict, isi_lst_dict, isi_dK_dict, isi_dT_dict, eqF_int, neF_int, eqF_bl, neF_bl, eqF_T, neF_T, eqF_Tm, neF_Tm, bndR_ok, bndR_none, bnd_ap, ret_ap, stuck_ap, mVar_ap, kVar_fz, kVar_ow, kVar_io, mC_ap, content_val, content_new, content_bor, slD_fz, slD_ow, slD_io, rv_f, rv_t, val_eq, new_eq, kRz_some, kRz_none, kP1_some, prim1_ap, kP2_some, prim2_ap, mBin_ap, kBin_ap, kBin2_ap, mUn_ap, kUn_ap, mTest_ap, kTest_ap, mTruth_ap, kTruth_ap, kTru_some, mNotT_ap, kNot_ap, mAndT_ap, mOrT_ap, kAnd_t, kAnd_f, kOr_t, kOr_f, mIf_ap, mIte_ap, kIf_t, kIf_f, mAndV_ap, mOrV_ap, kAndV_t, kAndV_f, kOrV_t, kOrV_f, mChain_ap, kCh1_ap, kCh2_ap, kCh3_ap, kLink_t, kLink_f, mChain3_ap, kC31_ap, kC32_ap, settle_val, settle_new, settle_bor, kSl_fz, kSl_ow, kOk_some, mD_ap, kD_ap, mCons_ap, kCons1_ap, kCons2_ap, mNil_ap, mStar_ap, kStar_ap, kStar1_some, kStar2_ap, mTup_ap, mLst_ap, kTup_ok, kLst_ok, mDict0_ap, mNoPart_ap, mPart_ap, kPart_ap, mSl_ap, kS1_ap, kS2_ap, kS3_ap, kS4_some, mRNil_ap, mRCons_ap, kR1_ap, kR2_ap, contents_nil, contents_cons, kCts_some, mCallB_ap, kCB_ap, kCB1_some, mArg_ap, kArg_f, kArg_val, kArg_new, kArg_bor, kArB_ow, kArB_io, mANil_ap, mACons_ap, kA1_ap, kA2_ap, mCall_ap, kCall_ap, kCall1_some, kFin_ok, owned_ow, owned_io, owned_fz, slsOf_nil, slsOf_pl, slsOf_tp, slsOf_ob, kOb_some, back_nil, back_pl, back_tp, back_ob, obs_nil, obs_pl, obs_tp, obs_ob, tps_nil, tps_pl, tps_tp, tps_ob, setOwn_ap, kSO_ow, kSO_io, mMut_ap, kMut0_some, kMut_some, mHas_ap, kHas_lst, mAppend_ap, kApp_ap, mPop_ap, mExtend_ap, kExt_ap, kExt1_some, appF_ok, extF_ok, popF_snoc, mSeq_ap, kSeq_nx, kSeq_rt, kSeq_bk, kSeq_ct, mSkip_ap, mBrk_ap, mCnt_ap, mExpr_ap, kDrop_ap, mRet_ap, kRet_val, kRet_new, kRet_bor, kRetB_fz, kRetB_ow, mRetN_ap, kNx_some, mSet_ap, kSet_ap, setSl_ap, kSS_no, kSS_fz, kSS_ow, kSS_pl, z1, z2, z3, z4, z5, z6, z7, z8, z9, z10, z11, z12, z13, z14, z15, z16, z17, z18, z19, z20, ixF_lst0, ixF_lst1, ixF_lst2, ixF_lst3, ixF_lstm, ixF_tup0, ixF_tup1, ixF_tup2, ixF_tup3, ixF_tupm, ixF_rol0, ixF_rol1, ixF_rol2, ixF_rol3, ixF_rolm, setF_0, setF_1, setF_2, setF_3, putRv_val, putRv_new, putRv_bor, noIo_no, noIo_fz, noIo_ow, mAsg_ap, kAsg_ap, gNm_ap, gTp_ap, gsNil_ap, gsCons_ap, mSt_ap, kSt_val, kSt_new, kSt_bor, mPNil_ap, mPCons_ap, kPC1_ap, mPar_ap, kPar_ap, putN_nil, putN_cons, mAug_ap, kAug_fz, kAug1_ap, mSetIx_ap, kIx_ap, kIx1_some, kIx2_ap, kIx3_some, kIx5_some, kIx4_some, setF_ok, mTurn_ap, kTurn_nx, kTurn_ct, kTurn_bk, kTurn_rt, kWh_t, kWh_f, forF_nil, kFor_some, semFn_ap, kFn_rt, kFn_nx, plain_fz, plain_io, mItems_ap, kIt_val, kIt_new, kIt_bor, kItB_fz, kItB_ow, kItB_io, kSrc_some, items_tup, items_lst, items_rol, mRng_ap, kRn_ap, kR_some, plainArg, val, new, negF, notF, lenF, absF, intF, boolF, max2F, min2F, tupleF, listF, fI, fI0, slF, isL, Rz.rv, eq_self, List.getElem?_cons_succ, List.getElem?_cons_zero, List.set_cons_succ, List.set_cons_zero, Option.map_some, Option.map_none, Option.bind_some, decide_true, decide_false, decide_not, Bool.not_true, Bool.not_false, Bool.true_and, Bool.and_true, Bool.false_and, Bool.and_false, Bool.true_or, Bool.or_true, Bool.false_or, Bool.or_false, List.nil_append, List.cons_append, List.append_nil, List.length_cons, List.length_nil, List.length_append, List.length_map, List.replicate_succ, List.replicate_zero, List.all_cons, List.all_nil, if_true, if_false, ite_true, ite_false, Nat.sub_self, Nat.reduceAdd, Nat.reduceSub, Nat.reduceLeDiff, Nat.reduceLT, List.take_succ_cons, List.take_zero, true_and, and_true, not_true, not_false_eq_true, and_self, List.nodup_nil, List.nodup_cons, List.mem_cons, List.not_mem_nil, or_false, false_or, List.map_cons, List.map_nil, List.map_append, Bool.decide_eq_true, Nat.zero_le, Bool.cond_true, Bool.cond_false, ↓reduceIte, reduceCtorEq, Int.reduceLT, Int.reduceLE, Int.reduceNeg, Int.reduceAdd, Int.reduceMul, Int.reduceSub, Int.reduceEq, Nat.reduceEqDiff, Nat.zero_add, id, n2, w__law_is_term_1, c1]
    | non  =>
      refine .inl ⟨by simp [termL], .fz (.int i), .fz (.non ), ?_⟩
      simp -implicitDefEqProofs only [kR_r1, kR_r2, kR_r3d, intsD, mFor_ap, kForS_ap, addF_ii, addF_tt, addF_ll, addF_ss, mulF_ii, mulF_tt, mulF_ll, subF_ii, ltF_ii, leF_ii, gtF_ii, geF_ii, modF_ii, divF_ii, powF_ii, cutD_lo, cutD_hi, cutD_mid, cutD_m1, mYes_ap, truD, isi_set_int, isi_set_bool, isi_set_tuple, isi_set_list, isi_set_str, isi_set_dict, mLc_ap, allF_f, anyF_f, isi_non_int, isi_bl_int, isi_int_int, isi_str_int, isi_tup_int, isi_lst_int, isi_dK_int, isi_dT_int, isi_non_bool, isi_bl_bool, isi_int_bool, isi_str_bool, isi_tup_bool, isi_lst_bool, isi_dK_bool, isi_dT_bool, isi_non_tuple, isi_bl_tuple, isi_int_tuple, isi_str_tuple, isi_tup_tuple, isi_lst_tuple, isi_dK_tuple, isi_dT_tuple, isi_non_list, isi_bl_list, isi_int_list, isi_str_list, isi_tup_list, isi_lst_list, isi_dK_list, isi_dT_list, isi_non_str, isi_bl_str, isi_int_str, isi_str_str, isi_tup_str, isi_lst_str, isi_dK_str, isi_dT_str, isi_non_dict, isi_bl_dict, isi_int_dict, isi_str_dict, isi_tup_dict, isi_lst_dict, isi_dK_dict, isi_dT_dict, eqF_int, neF_int, eqF_bl, neF_bl, eqF_T, neF_T, eqF_Tm, neF_Tm, bndR_ok, bndR_none, bnd_ap, ret_ap, stuck_ap, mVar_ap, kVar_fz, kVar_ow, kVar_io, mC_ap, content_val, content_new, content_bor, slD_fz, slD_ow, slD_io, rv_f, rv_t, val_eq, new_eq, kRz_some, kRz_none, kP1_some, prim1_ap, kP2_some, prim2_ap, mBin_ap, kBin_ap, kBin2_ap, mUn_ap, kUn_ap, mTest_ap, kTest_ap, mTruth_ap, kTruth_ap, kTru_some, mNotT_ap, kNot_ap, mAndT_ap, mOrT_ap, kAnd_t, kAnd_f, kOr_t, kOr_f, mIf_ap, mIte_ap, kIf_t, kIf_f, mAndV_ap, mOrV_ap, kAndV_t, kAndV_f, kOrV_t, kOrV_f, mChain_ap, kCh1_ap, kCh2_ap, kCh3_ap, kLink_t, kLink_f, mChain3_ap, kC31_ap, kC32_ap, settle_val, settle_new, settle_bor, kSl_fz, kSl_ow, kOk_some, mD_ap, kD_ap, mCons_ap, kCons1_ap, kCons2_ap, mNil_ap, mStar_ap, kStar_ap, kStar1_some, kStar2_ap, mTup_ap, mLst_ap, kTup_ok, kLst_ok, mDict0_ap, mNoPart_ap, mPart_ap, kPart_ap, mSl_ap, kS1_ap, kS2_ap, kS3_ap, kS4_some, mRNil_ap, mRCons_ap, kR1_ap, kR2_ap, contents_nil, contents_cons, kCts_some, mCallB_ap, kCB_ap, kCB1_some, mArg_ap, kArg_f, kArg_val, kArg_new, kArg_bor, kArB_ow, kArB_io, mANil_ap, mACons_ap, kA1_ap, kA2_ap, mCall_ap, kCall_ap, kCall1_some, kFin_ok, owned_ow, owned_io, owned_fz, slsOf_nil, slsOf_pl, slsOf_tp, slsOf_ob, kOb_some, back_nil, back_pl, back_tp, back_ob, obs_nil, obs_pl, obs_tp, obs_ob, tps_nil, tps_pl, tps_tp, tps_ob, setOwn_ap, kSO_ow, kSO_io, mMut_ap, kMut0_some, kMut_some, mHas_ap, kHas_lst, mAppend_ap, kApp_ap, mPop_ap, mExtend_ap, kExt_ap, kExt1_some, appF_ok, extF_ok, popF_snoc, mSeq_ap, kSeq_nx, kSeq_rt, kSeq_bk, kSeq_ct, mSkip_ap, mBrk_ap, mCnt_ap, mExpr_ap, kDrop_ap, mRet_ap, kRet_val, kRet_new, kRet_bor, kRetB_fz, kRetB_ow, mRetN_ap, kNx_some, mSet_ap, kSet_ap, setSl_ap, kSS_no, kSS_fz, kSS_ow, kSS_pl, z1, z2, z3, z4, z5, z6, z7, z8, z9, z10, z11, z12, z13, z14, z15, z16, z17, z18, z19, z20, ixF_lst0, ixF_lst1, ixF_lst2, ixF_lst3, ixF_lstm, ixF_tup0, ixF_tup1, ixF_tup2, ixF_tup3, ixF_tupm, ixF_rol0, ixF_rol1, ixF_rol2, ixF_rol3, ixF_rolm, setF_0, setF_1, setF_2, setF_3, putRv_val, putRv_new, putRv_bor, noIo_no, noIo_fz, noIo_ow, mAsg_ap, kAsg_ap, gNm_ap, gTp_ap, gsNil_ap, gsCons_ap, mSt_ap, kSt_val, kSt_new, kSt_bor, mPNil_ap, mPCons_ap, kPC1_ap, mPar_ap, kPar_ap, putN_nil, putN_cons, mAug_ap, kAug_fz, kAug1_ap, mSetIx_ap, kIx_ap, kIx1_some, kIx2_ap, kIx3_some, kIx5_some, kIx4_some, setF_ok, mTurn_ap, kTurn_nx, kTurn_ct, kTurn_bk, kTurn_rt, kWh_t, kWh_f, forF_nil, kFor_some, semFn_ap, kFn_rt, kFn_nx, plain_fz, plain_io, mItems_ap, kIt_val, kIt_new, kIt_bor, kItB_fz, kItB_ow, kItB_io, kSrc_some, items_tup, items_lst, items_rol, mRng_ap, kRn_ap, kR_some, plainArg, val, new, negF, notF, lenF, absF, intF, boolF, max2F, min2F, tupleF, listF, fI, fI0, slF, isL, Rz.rv, eq_self, List.getElem?_cons_succ, List.getElem?_cons_zero, List.set_cons_succ, List.set_cons_zero, Option.map_some, Option.map_none, Option.bind_some, decide_true, decide_false, decide_not, Bool.not_true, Bool.not_false, Bool.true_and, Bool.and_true, Bool.false_and, Bool.and_false, Bool.true_or, Bool.or_true, Bool.false_or, Bool.or_false, List.nil_append, List.cons_append, List.append_nil, List.length_cons, List.length_nil, List.length_append, List.length_map, List.replicate_succ, List.replicate_zero, List.all_cons, List.all_nil, if_true, if_false, ite_true, ite_false, Nat.sub_self, Nat.reduceAdd, Nat.reduceSub, Nat.reduceLeDiff, Nat.reduceLT, List.take_succ_cons, List.take_zero, true_and, and_true, not_true, not_false_eq_true, and_self, List.nodup_nil, List.nodup_cons, List.mem_cons, List.not_mem_nil, or_false, false_or, List.map_cons, List.map_nil, List.map_append, Bool.decide_eq_true, Nat.zero_le, Bool.cond_true, Bool.cond_false, ↓reduceIte, reduceCtorEq, Int.reduceLT, Int.reduceLE, Int.reduceNeg, Int.reduceAdd, Int.reduceMul, Int.reduceSub, Int.reduceEq, Nat.reduceEqDiff, Nat.zero_add, id, n2, w__law_is_term_1]
    | bl b =>
      refine .inl ⟨by simp [termL], .fz (.int i), .fz (.bl b), ?_⟩
      simp -implicitDefEqProofs only [kR_r1, kR_r2, kR_r3d, intsD, mFor_ap, kForS_ap, addF_ii, addF_tt, addF_ll, addF_ss, mulF_ii, mulF_tt, mulF_ll, subF_ii, ltF_ii, leF_ii, gtF_ii, geF_ii, modF_ii, divF_ii, powF_ii, cutD_lo, cutD_hi, cutD_mid, cutD_m1, mYes_ap, truD, isi_set_int, isi_set_bool, isi_set_tuple, isi_set_list, isi_set_str, isi_set_dict, mLc_ap, allF_f, anyF_f, isi_non_int, isi_bl_int, isi_int_int, isi_str_int, isi_tup_int, isi_lst_int, isi_dK_int, isi_dT_int, isi_non_bool, isi_bl_bool, isi_int_bool, isi_str_bool, isi_tup_bool, isi_lst_bool, isi_dK_bool, isi_dT_bool, isi_non_tuple, isi_bl_tuple, isi_int_tuple, isi_str_tuple, isi_tup_tuple, isi_lst_tuple, isi_dK_tuple, isi_dT_tuple, isi_non_list, isi_bl_list, isi_int_list, isi_str_list, isi_tup_list, isi_lst_list, isi_dK_list, isi_dT_list, isi_non_str, isi_bl_str, isi_int_str, isi_str_str, isi_tup_str, isi_lst_str, isi_dK_str, isi_dT_str, isi_non_dict, isi_bl_dict, isi_int_dict, isi_str_dict, isi_tup_dict, isi_lst_dict, isi_dK_dict, isi_dT_dict, eqF_int, neF_int, eqF_bl, neF_bl, eqF_T, neF_T, eqF_Tm, neF_Tm, bndR_ok, bndR_none, bnd_ap, ret_ap, stuck_ap, mVar_ap, kVar_fz, kVar_ow, kVar_io, mC_ap, content_val, content_new, content_bor, slD_fz, slD_ow, slD_io, rv_f, rv_t, val_eq, new_eq, kRz_some, kRz_none, kP1_some, prim1_ap, kP2_some, prim2_ap, mBin_ap, kBin_ap, kBin2_ap, mUn_ap, kUn_ap, mTest_ap, kTest_ap, mTruth_ap, kTruth_ap, kTru_some, mNotT_ap, kNot_ap, mAndT_ap, mOrT_ap, kAnd_t, kAnd_f, kOr_t, kOr_f, mIf_ap, mIte_ap, kIf_t, kIf_f, mAndV_ap, mOrV_ap, kAndV_t, kAndV_f, kOrV_t, kOrV_f, mChain_ap, kCh1_ap, kCh2_ap, kCh3_ap, kLink_t, kLink_f, mChain3_ap, kC31_ap, kC32_ap, settle_val, settle_new, settle_bor, kSl_fz, kSl_ow, kOk_some, mD_ap, kD_ap, mCons_ap, kCons1_ap, kCons2_ap, mNil_ap, mStar_ap, kStar_ap, kStar1_some, kStar2_ap, mTup_ap, mLst_ap, kTup_ok, kLst_ok, mDict0_ap, mNoPart_ap, mPart_ap, kPart_ap, mSl_ap, kS1_ap, kS2_ap, kS3_ap, kS4_some, mRNil_ap, mRCons_ap, kR1_ap, kR2_ap, contents_nil, contents_cons, kCts_some, mCallB_ap, kCB_ap, kCB1_some, mArg_ap, kArg_f, kArg_val, kArg_new, kArg_bor, kArB_ow, kArB_io, mANil_ap, mACons_ap, kA1_ap, kA2_ap, mCall_ap, kCall_ap, kCall1_some, kFin_ok, owned_ow, owned_io, owned_fz, slsOf_nil, slsOf_pl, slsOf_tp, slsOf_ob, kOb_some, back_nil, back_pl, back_tp, back_ob, obs_nil, obs_pl, obs_tp, obs_ob, tps_nil, tps_pl, tps_tp, tps_ob, setOwn_ap, kSO_ow, kSO_io, mMut_ap, kMut0_some, kMut_some, mHas_ap, kHas_lst, mAppend_ap, kApp_ap, mPop_ap, mExtend_ap, kExt_ap, kExt1_some, appF_ok, extF_ok, popF_snoc, mSeq_ap, kSeq_nx, kSeq_rt, kSeq_bk, kSeq_ct, mSkip_ap, mBrk_ap, mCnt_ap, mExpr_ap, kDrop_ap, mRet_ap, kRet_val, kRet_new, kRet_bor, kRetB_fz, kRetB_ow, mRetN_ap, kNx_some, mSet_ap, kSet_ap, setSl_ap, kSS_no, kSS_fz, kSS_ow, kSS_pl, z1, z2, z3, z4, z5, z6, z7, z8, z9, z10, z11, z12, z13, z14, z15, z16, z17, z18, z19, z20, ixF_lst0, ixF_lst1, ixF_lst2, ixF_lst3, ixF_lstm, ixF_tup0, ixF_tup1, ixF_tup2, ixF_tup3, ixF_tupm, ixF_rol0, ixF_rol1, ixF_rol2, ixF_rol3, ixF_rolm, setF_0, setF_1, setF_2, setF_3, putRv_val, putRv_new, putRv_bor, noIo_no, noIo_fz, noIo_ow, mAsg_ap, kAsg_ap, gNm_ap, gTp_ap, gsNil_ap, gsCons_ap, mSt_ap, kSt_val, kSt_new, kSt_bor, mPNil_ap, mPCons_ap, kPC1_ap, mPar_ap, kPar_ap, putN_nil, putN_cons, mAug_ap, kAug_fz, kAug1_ap, mSetIx_ap, kIx_ap, kIx1_some, kIx2_ap, kIx3_some, kIx5_some, kIx4_some, setF_ok, mTurn_ap, kTurn_nx, kTurn_ct, kTurn_bk, kTurn_rt, kWh_t, kWh_f, forF_nil, kFor_some, semFn_ap, kFn_rt, kFn_nx, plain_fz, plain_io, mItems_ap, kIt_val, kIt_new, kIt_bor, kItB_fz, kItB_ow, kItB_io, kSrc_some, items_tup, items_lst, items_rol, mRng_ap, kRn_ap, kR_some, plainArg, val, new, negF, notF, lenF, absF, intF, boolF, max2F, min2F, tupleF, listF, fI, fI0, slF, isL, Rz.rv, eq_self, List.getElem?_cons_succ, List.getElem?_cons_zero, List.set_cons_succ, List.set_cons_zero, Option.map_some, Option.map_none, Option.bind_some, decide_true, decide_false, decide_not, Bool.not_true, Bool.not_false, Bool.true_and, Bool.and_true, Bool.false_and, Bool.and_false, Bool.true_or, Bool.or_true, Bool.false_or, Bool.or_false, List.nil_append, List.cons_append, List.append_nil, List.length_cons, List.length_nil, List.length_append, List.length_map, List.replicate_succ, List.replicate_zero, List.all_cons, List.all_nil, if_true, if_false, ite_true, ite_false, Nat.sub_self, Nat.reduceAdd, Nat.reduceSub, Nat.reduceLeDiff, Nat.reduceLT, List.take_succ_cons, List.take_zero, true_and, and_true, not_true, not_false_eq_true, and_self, List.nodup_nil, List.nodup_cons, List.mem_cons, List.not_mem_nil, or_false, false_or, List.map_cons, List.map_nil, List.map_append, Bool.decide_eq_true, Nat.zero_le, Bool.cond_true, Bool.cond_false, ↓reduceIte, reduceCtorEq, Int.reduceLT, Int.reduceLE, Int.reduceNeg, Int.reduceAdd, Int.reduceMul, Int.reduceSub, Int.reduceEq, Nat.reduceEqDiff, Nat.zero_add, id, n2, w__law_is_term_1]
    | str b =>
      refine .inl ⟨by simp [termL], .fz (.int i), .fz (.str b), ?_⟩
      simp -implicitDefEqProofs only [kR_r1, kR_r2, kR_r3d, intsD, mFor_ap, kForS_ap, addF_ii, addF_tt, addF_ll, addF_ss, mulF_ii, mulF_tt, mulF_ll, subF_ii, ltF_ii, leF_ii, gtF_ii, geF_ii, modF_ii, divF_ii, powF_ii, cutD_lo, cutD_hi, cutD_mid, cutD_m1, mYes_ap, truD, isi_set_int, isi_set_bool, isi_set_tuple, isi_set_list, isi_set_str, isi_set_dict, mLc_ap, allF_f, anyF_f, isi_non_int, isi_bl_int, isi_int_int, isi_str_int, isi_tup_int, isi_lst_int, isi_dK_int, isi_dT_int, isi_non_bool, isi_bl_bool, isi_int_bool, isi_str_bool, isi_tup_bool, isi_lst_bool, isi_dK_bool, isi_dT_bool, isi_non_tuple, isi_bl_tuple, isi_int_tuple, isi_str_tuple, isi_tup_tuple, isi_lst_tuple, isi_dK_tuple, isi_dT_tuple, isi_non_list, isi_bl_list, isi_int_list, isi_str_list, isi_tup_list, isi_lst_list, isi_dK_list, isi_dT_list, isi_non_str, isi_bl_str, isi_int_str, isi_str_str, isi_tup_str, isi_lst_str, isi_dK_str, isi_dT_str, isi_non_dict, isi_bl_dict, isi_int_dict, isi_str_dict, isi_tup_dict, isi_lst_dict, isi_dK_dict, isi_dT_dict, eqF_int, neF_int, eqF_bl, neF_bl, eqF_T, neF_T, eqF_Tm, neF_Tm, bndR_ok, bndR_none, bnd_ap, ret_ap, stuck_ap, mVar_ap, kVar_fz, kVar_ow, kVar_io, mC_ap, content_val, content_new, content_bor, slD_fz, slD_ow, slD_io, rv_f, rv_t, val_eq, new_eq, kRz_some, kRz_none, kP1_some, prim1_ap, kP2_some, prim2_ap, mBin_ap, kBin_ap, kBin2_ap, mUn_ap, kUn_ap, mTest_ap, kTest_ap, mTruth_ap, kTruth_ap, kTru_some, mNotT_ap, kNot_ap, mAndT_ap, mOrT_ap, kAnd_t, kAnd_f, kOr_t, kOr_f, mIf_ap, mIte_ap, kIf_t, kIf_f, mAndV_ap, mOrV_ap, kAndV_t, kAndV_f, kOrV_t, kOrV_f, mChain_ap, kCh1_ap, kCh2_ap, kCh3_ap, kLink_t, kLink_f, mChain3_ap, kC31_ap, kC32_ap, settle_val, settle_new, settle_bor, kSl_fz, kSl_ow, kOk_some, mD_ap, kD_ap, mCons_ap, kCons1_ap, kCons2_ap, mNil_ap, mStar_ap, kStar_ap, kStar1_some, kStar2_ap, mTup_ap, mLst_ap, kTup_ok, kLst_ok, mDict0_ap, mNoPart_ap, mPart_ap, kPart_ap, mSl_ap, kS1_ap, kS2_ap, kS3_ap, kS4_some, mRNil_ap, mRCons_ap, kR1_ap, kR2_ap, contents_nil, contents_cons, kCts_some, mCallB_ap, kCB_ap, kCB1_some, mArg_ap, kArg_f, kArg_val, kArg_new, kArg_bor, kArB_ow, kArB_io, mANil_ap, mACons_ap, kA1_ap, kA2_ap, mCall_ap, kCall_ap, kCall1_some, kFin_ok, owned_ow, owned_io, owned_fz, slsOf_nil, slsOf_pl, slsOf_tp, slsOf_ob, kOb_some, back_nil, back_pl, back_tp, back_ob, obs_nil, obs_pl, obs_tp, obs_ob, tps_nil, tps_pl, tps_tp, tps_ob, setOwn_ap, kSO_ow, kSO_io, mMut_ap, kMut0_some, kMut_some, mHas_ap, kHas_lst, mAppend_ap, kApp_ap, mPop_ap, mExtend_ap, kExt_ap, kExt1_some, appF_ok, extF_ok, popF_snoc, mSeq_ap, kSeq_nx, kSeq_rt, kSeq_bk, kSeq_ct, mSkip_ap, mBrk_ap, mCnt_ap, mExpr_ap, kDrop_ap, mRet_ap, kRet_val, kRet_new, kRet_bor, kRetB_fz, kRetB_ow, mRetN_ap, kNx_some, mSet_ap, kSet_ap, setSl_ap, kSS_no, kSS_fz, kSS_ow, kSS_pl, z1, z2, z3, z4, z5, z6, z7, z8, z9, z10, z11, z12, z13, z14, z15, z16, z17, z18, z19, z20, ixF_lst0, ixF_lst1, ixF_lst2, ixF_lst3, ixF_lstm, ixF_tup0, ixF_tup1, ixF_tup2, ixF_tup3, ixF_tupm, ixF_rol0, ixF_rol1, ixF_rol2, ixF_rol3, ixF_rolm, setF_0, setF_1, setF_2, setF_3, putRv_val, putRv_new, putRv_bor, noIo_no, noIo_fz, noIo_ow, mAsg_ap, kAsg_ap, gNm_ap, gTp_ap, gsNil_ap, gsCons_ap, mSt_ap, kSt_val, kSt_new, kSt_bor, mPNil_ap, mPCons_ap, kPC1_ap, mPar_ap, kPar_ap, putN_nil, putN_cons, mAug_ap, kAug_fz, kAug1_ap, mSetIx_ap, kIx_ap, kIx1_some, kIx2_ap, kIx3_some, kIx5_some, kIx4_some, setF_ok, mTurn_ap, kTurn_nx, kTurn_ct, kTurn_bk, kTurn_rt, kWh_t, kWh_f, forF_nil, kFor_some, semFn_ap, kFn_rt, kFn_nx, plain_fz, plain_io, mItems_ap, kIt_val, kIt_new, kIt_bor, kItB_fz, kItB_ow, kItB_io, kSrc_some, items_tup, items_lst, items_rol, mRng_ap, kRn_ap, kR_some, plainArg, val, new, negF, notF, lenF, absF, intF, boolF, max2F, min2F, tupleF, listF, fI, fI0, slF, isL, Rz.rv, eq_self, List.getElem?_cons_succ, List.getElem?_cons_zero, List.set_cons_succ, List.set_cons_zero, Option.map_some, Option.map_none, Option.bind_some, decide_true, decide_false, decide_not, Bool.not_true, Bool.not_false, Bool.true_and, Bool.and_true, Bool.false_and, Bool.and_false, Bool.true_or, Bool.or_true, Bool.false_or, Bool.or_false, List.nil_append, List.cons_append, List.append_nil, List.length_cons, List.length_nil, List.length_append, List.length_map, List.replicate_succ, List.replicate_zero, List.all_cons, List.all_nil, if_true, if_false, ite_true, ite_false, Nat.sub_self, Nat.reduceAdd, Nat.reduceSub, Nat.reduceLeDiff, Nat.reduceLT, List.take_succ_cons, List.take_zero, true_and, and_true, not_true, not_false_eq_true, and_self, List.nodup_nil, List.nodup_cons, List.mem_cons, List.not_mem_nil, or_false, false_or, List.map_cons, List.map_nil, List.map_append, Bool.decide_eq_true, Nat.zero_le, Bool.cond_true, Bool.cond_false, ↓reduceIte, reduceCtorEq, Int.reduceLT, Int.reduceLE, Int.reduceNeg, Int.reduceAdd, Int.reduceMul, Int.reduceSub, Int.reduceEq, Nat.reduceEqDiff, Nat.zero_add, id, n2, w__law_is_term_1]
    | tup b =>
      refine .inl ⟨by simp [termL], .fz (.int i), .fz (.tup b), ?_⟩
      simp -implicitDefEqProofs only [kR_r1, kR_r2, kR_r3d, intsD, mFor_ap, kForS_ap, addF_ii, addF_tt, addF_ll, addF_ss, mulF_ii, mulF_tt, mulF_ll, subF_ii, ltF_ii, leF_ii, gtF_ii, geF_ii, modF_ii, divF_ii, powF_ii, cutD_lo, cutD_hi, cutD_mid, cutD_m1, mYes_ap, truD, isi_set_int, isi_set_bool, isi_set_tuple, isi_set_list, isi_set_str, isi_set_dict, mLc_ap, allF_f, anyF_f, isi_non_int, isi_bl_int, isi_int_int, isi_str_int, isi_tup_int, isi_lst_int, isi_dK_int, isi_dT_int, isi_non_bool, isi_bl_bool, isi_int_bool, isi_str_bool, isi_tup_bool, isi_lst_bool, isi_dK_bool, isi_dT_bool, isi_non_tuple, isi_bl_tuple, isi_int_tuple, isi_str_tuple, isi_tup_tuple, isi_lst_tuple, isi_dK_tuple, isi_dT_tuple, isi_non_list, isi_bl_list, isi_int_list, isi_str_list, isi_tup_list, isi_lst_list, isi_dK_list, isi_dT_list, isi_non_str, isi_bl_str, isi_int_str, isi_str_str, isi_tup_str, isi_lst_str, isi_dK_str, isi_dT_str, isi_non_dict, isi_bl_dict, isi_int_dict, isi_str_dict, isi_tup_dict, isi_lst_dict, isi_dK_dict, isi_dT_dict, eqF_int, neF_int, eqF_bl, neF_bl, eqF_T, neF_T, eqF_Tm, neF_Tm, bndR_ok, bndR_none, bnd_ap, ret_ap, stuck_ap, mVar_ap, kVar_fz, kVar_ow, kVar_io, mC_ap, content_val, content_new, content_bor, slD_fz, slD_ow, slD_io, rv_f, rv_t, val_eq, new_eq, kRz_some, kRz_none, kP1_some, prim1_ap, kP2_some, prim2_ap, mBin_ap, kBin_ap, kBin2_ap, mUn_ap, kUn_ap, mTest_ap, kTest_ap, mTruth_ap, kTruth_ap, kTru_some, mNotT_ap, kNot_ap, mAndT_ap, mOrT_ap, kAnd_t, kAnd_f, kOr_t, kOr_f, mIf_ap, mIte_ap, kIf_t, kIf_f, mAndV_ap, mOrV_ap, kAndV_t, kAndV_f, kOrV_t, kOrV_f, mChain_ap, kCh1_ap, kCh2_ap, kCh3_ap, kLink_t, kLink_f, mChain3_ap, kC31_ap, kC32_ap, settle_val, settle_new, settle_bor, kSl_fz, kSl_ow, kOk_some, mD_ap, kD_ap, mCons_ap, kCons1_ap, kCons2_ap, mNil_ap, mStar_ap, kStar_ap, kStar1_some, kStar2_ap, mTup_ap, mLst_ap, kTup_ok, kLst_ok, mDict0_ap, mNoPart_ap, mPart_ap, kPart_ap, mSl_ap, kS1_ap, kS2_ap, kS3_ap, kS4_some, mRNil_ap, mRCons_ap, kR1_ap, kR2_ap, contents_nil, contents_cons, kCts_some, mCallB_ap, kCB_ap, kCB1_some, mArg_ap, kArg_f, kArg_val, kArg_new, kArg_bor, kArB_ow, kArB_io, mANil_ap, mACons_ap, kA1_ap, kA2_ap, mCall_ap, kCall_ap, kCall1_some, kFin_ok, owned_ow, owned_io, owned_fz, slsOf_nil, slsOf_pl, slsOf_tp, slsOf_ob, kOb_some, back_nil, back_pl, back_tp, back_ob, obs_nil, obs_pl, obs_tp, obs_ob, tps_nil, tps_pl, tps_tp, tps_ob, setOwn_ap, kSO_ow, kSO_io, mMut_ap, kMut0_some, kMut_some, mHas_ap, kHas_lst, mAppend_ap, kApp_ap, mPop_ap, mExtend_ap, kExt_ap, kExt1_some, appF_ok, extF_ok, popF_snoc, mSeq_ap, kSeq_nx, kSeq_rt, kSeq_bk, kSeq_ct, mSkip_ap, mBrk_ap, mCnt_ap, mExpr_ap, kDrop_ap, mRet_ap, kRet_val, kRet_new, kRet_bor, kRetB_fz, kRetB_ow, mRetN_ap, kNx_some, mSet_ap, kSet_ap, setSl_ap, kSS_no, kSS_fz, kSS_ow, kSS_pl, z1, z2, z3, z4, z5, z6, z7, z8, z9, z10, z11, z12, z13, z14, z15, z16, z17, z18, z19, z20, ixF_lst0, ixF_lst1, ixF_lst2, ixF_lst3, ixF_lstm, ixF_tup0, ixF_tup1, ixF_tup2, ixF_tup3, ixF_tupm, ixF_rol0, ixF_rol1, ixF_rol2, ixF_rol3, ixF_rolm, setF_0, setF_1, setF_2, setF_3, putRv_val, putRv_new, putRv_bor, noIo_no, noIo_fz, noIo_ow, mAsg_ap, kAsg_ap, gNm_ap, gTp_ap, gsNil_ap, gsCons_ap, mSt_ap, kSt_val, kSt_new, kSt_bor, mPNil_ap, mPCons_ap, kPC1_ap, mPar_ap, kPar_ap, putN_nil, putN_cons, mAug_ap, kAug_fz, kAug1_ap, mSetIx_ap, kIx_ap, kIx1_some, kIx2_ap, kIx3_some, kIx5_some, kIx4_some, setF_ok, mTurn_ap, kTurn_nx, kTurn_ct, kTurn_bk, kTurn_rt, kWh_t, kWh_f, forF_nil, kFor_some, semFn_ap, kFn_rt, kFn_nx, plain_fz, plain_io, mItems_ap, kIt_val, kIt_new, kIt_bor, kItB_fz, kItB_ow, kItB_io, kSrc_some, items_tup, items_lst, items_rol, mRng_ap, kRn_ap, kR_some, plainArg, val, new, negF, notF, lenF, absF, intF, boolF, max2F, min2F, tupleF, listF, fI, fI0, slF, isL, Rz.rv, eq_self, List.getElem?_cons_succ, List.getElem?_cons_zero, List.set_cons_succ, List.set_cons_zero, Option.map_some, Option.map_none, Option.bind_some, decide_true, decide_false, decide_not, Bool.not_true, Bool.not_false, Bool.true_and, Bool.and_true, Bool.false_and, Bool.and_false, Bool.true_or, Bool.or_true, Bool.false_or, Bool.or_false, List.nil_append, List.cons_append, List.append_nil, List.length_cons, List.length_nil, List.length_append, List.length_map, List.replicate_succ, List.replicate_zero, List.all_cons, List.all_nil, if_true, if_false, ite_true, ite_false, Nat.sub_self, Nat.reduceAdd, Nat.reduceSub, Nat.reduceLeDiff, Nat.reduceLT, List.take_succ_cons, List.take_zero, true_and, and_true, not_true, not_false_eq_true, and_self, List.nodup_nil, List.nodup_cons, List.mem_cons, List.not_mem_nil, or_false, false_or, List.map_cons, List.map_nil, List.map_append, Bool.decide_eq_true, Nat.zero_le, Bool.cond_true, Bool.cond_false, ↓reduceIte, reduceCtorEq, Int.reduceLT, Int.reduceLE, Int.reduceNeg, Int.reduceAdd, Int.reduceMul, Int.reduceSub, Int.reduceEq, Nat.reduceEqDiff, Nat.zero_add, id, n2, w__law_is_term_1]
    | lst b =>
      refine .inl ⟨by simp [termL], .fz (.int i), .fz (.lst b), ?_⟩
      simp -implicitDefEqProofs only [kR_r1, kR_r2, kR_r3d, intsD, mFor_ap, kForS_ap, addF_ii, addF_tt, addF_ll, addF_ss, mulF_ii, mulF_tt, mulF_ll, subF_ii, ltF_ii, leF_ii, gtF_ii, geF_ii, modF_ii, divF_ii, powF_ii, cutD_lo, cutD_hi, cutD_mid, cutD_m1, mYes_ap, truD, isi_set_int, isi_set_bool, isi_set_tuple, isi_set_list, isi_set_str, isi_set_dict, mLc_ap, allF_f, anyF_f, isi_non_int, isi_bl_int, isi_int_int, isi_str_int, isi_tup_int, isi_lst_int, isi_dK_int, isi_dT_int, isi_non_bool, isi_bl_bool, isi_int_bool, isi_str_bool, isi_tup_bool, isi_lst_bool, isi_dK_bool, isi_dT_bool, isi_non_tuple, isi_bl_tuple, isi_int_tuple, isi_str_tuple, isi_tup_tuple, isi_lst_tuple, isi_dK_tuple, isi_dT_tuple, isi_non_list, isi_bl_list, isi_int_list, isi_str_list, isi_tup_list, isi_lst_list, isi_dK_list, isi_dT_list, isi_non_str, isi_bl_str, isi_int_str, isi_str_str, isi_tup_str, isi_lst_str, isi_dK_str, isi_dT_str, isi_non_dict, isi_bl_dict, isi_int_dict, isi_str_dict, isi_tup_dict, isi_lst_dict, isi_dK_dict, isi_dT_dict, eqF_int, neF_int, eqF_bl, neF_bl, eqF_T, neF_T, eqF_Tm, neF_Tm, bndR_ok, bndR_none, bnd_ap, ret_ap, stuck_ap, mVar_ap, kVar_fz, kVar_ow, kVar_io, mC_ap, content_val, content_new, content_bor, slD_fz, slD_ow, slD_io, rv_f, rv_t, val_eq, new_eq, kRz_some, kRz_none, kP1_some, prim1_ap, kP2_some, prim2_ap, mBin_ap, kBin_ap, kBin2_ap, mUn_ap, kUn_ap, mTest_ap, kTest_ap, mTruth_ap, kTruth_ap, kTru_some, mNotT_ap, kNot_ap, mAndT_ap, mOrT_ap, kAnd_t, kAnd_f, kOr_t, kOr_f, mIf_ap, mIte_ap, kIf_t, kIf_f, mAndV_ap, mOrV_ap, kAndV_t, kAndV_f, kOrV_t, kOrV_f, mChain_ap, kCh1_ap, kCh2_ap, kCh3_ap, kLink_t, kLink_f, mChain3_ap, kC31_ap, kC32_ap, settle_val, settle_new, settle_bor, kSl_fz, kSl_ow, kOk_some, mD_ap, kD_ap, mCons_ap, kCons1_ap, kCons2_ap, mNil_ap, mStar_ap, kStar_ap, kStar1_some, kStar2_ap, mTup_ap, mLst_ap, kTup_ok, kLst_ok, mDict0_ap, mNoPart_ap, mPart_ap, kPart_ap, mSl_ap, kS1_ap, kS2_ap, kS3_ap, kS4_some, mRNil_ap, mRCons_ap, kR1_ap, kR2_ap, contents_nil, contents_cons, kCts_some, mCallB_ap, kCB_ap, kCB1_some, mArg_ap, kArg_f, kArg_val, kArg_new, kArg_bor, kArB_ow, kArB_io, mANil_ap, mACons_ap, kA1_ap, kA2_ap, mCall_ap, kCall_ap, kCall1_some, kFin_ok, owned_ow, owned_io, owned_fz, slsOf_nil, slsOf_pl, slsOf_tp, slsOf_ob, kOb_some, back_nil, back_pl, back_tp, back_ob, obs_nil, obs_pl, obs_tp, obs_ob, tps_nil, tps_pl, tps_tp, tps_ob, setOwn_ap, kSO_ow, kSO_io, mMut_ap, kMut0_some, kMut_some, mHas_ap, kHas_lst, mAppend_ap, kApp_ap, mPop_ap, mExtend_ap, kExt_ap, kExt1_some, appF_ok, extF_ok, popF_snoc, mSeq_ap, kSeq_nx, kSeq_rt, kSeq_bk, kSeq_ct, mSkip_ap, mBrk_ap, mCnt_ap, mExpr_ap, kDrop_ap, mRet_ap, kRet_val, kRet_new, kRet_bor, kRetB_fz, kRetB_ow, mRetN_ap, kNx_some, mSet_ap, kSet_ap, setSl_ap, kSS_no, kSS_fz, kSS_ow, kSS_pl, z1, z2, z3, z4, z5, z6, z7, z8, z9, z10, z11, z12, z13, z14, z15, z16, z17, z18, z19, z20, ixF_lst0, ixF_lst1, ixF_lst2, ixF_lst3, ixF_lstm, ixF_tup0, ixF_tup1, ixF_tup2, ixF_tup3, ixF_tupm, ixF_rol0, ixF_rol1, ixF_rol2, ixF_rol3, ixF_rolm, setF_0, setF_1, setF_2, setF_3, putRv_val, putRv_new, putRv_bor, noIo_no, noIo_fz, noIo_ow, mAsg_ap, kAsg_ap, gNm_ap, gTp_ap, gsNil_ap, gsCons_ap, mSt_ap, kSt_val, kSt_new, kSt_bor, mPNil_ap, mPCons_ap, kPC1_ap, mPar_ap, kPar_ap, putN_nil, putN_cons, mAug_ap, kAug_fz, kAug1_ap, mSetIx_ap, kIx_ap, kIx1_some, kIx2_ap, kIx3_some, kIx5_some, kIx4_some, setF_ok, mTurn_ap, kTurn_nx, kTurn_ct, kTurn_bk, kTurn_rt, kWh_t, kWh_f, forF_nil, kFor_some, semFn_ap, kFn_rt, kFn_nx, plain_fz, plain_io, mItems_ap, kIt_val, kIt_new, kIt_bor, kItB_fz, kItB_ow, kItB_io, kSrc_some, items_tup, items_lst, items_rol, mRng_ap, kRn_ap, kR_some, plainArg, val, new, negF, notF, lenF, absF, intF, boolF, max2F, min2F, tupleF, listF, fI, fI0, slF, isL, Rz.rv, eq_self, List.getElem?_cons_succ, List.getElem?_cons_zero, List.set_cons_succ, List.set_cons_zero, Option.map_some, Option.map_none, Option.bind_some, decide_true, decide_false, decide_not, Bool.not_true, Bool.not_false, Bool.true_and, Bool.and_true, Bool.false_and, Bool.and_false, Bool.true_or, Bool.or_true, Bool.false_or, Bool.or_false, List.nil_append, List.cons_append, List.append_nil, List.length_cons, List.length_nil, List.length_append, List.length_map, List.replicate_succ, List.replicate_zero, List.all_cons, List.all_nil, if_true, if_false, ite_true, ite_false, Nat.sub_self, Nat.reduceAdd, Nat.reduceSub, Nat.reduceLeDiff, Nat.reduceLT, List.take_succ_cons, List.take_zero, true_and, and_true, not_true, not_false_eq_true, and_self, List.nodup_nil, List.nodup_cons, List.mem_cons, List.not_mem_nil, or_false, false_or, List.map_cons, List.map_nil, List.map_append, Bool.decide_eq_true, Nat.zero_le, Bool.cond_true, Bool.cond_false, ↓reduceIte, reduceCtorEq, Int.reduceLT, Int.reduceLE, Int.reduceNeg, Int.reduceAdd, Int.reduceMul, Int.reduceSub, Int.reduceEq, Nat.reduceEqDiff, Nat.zero_add, id, n2, w__law_is_term_1]
    | dK b =>
      refine .inl ⟨by simp [termL], .fz (.int i), .fz (.dK b), ?_⟩
      simp -implicitDefEqProofs only [kR_r1, kR_r2, kR_r3d, intsD, mFor_ap, kForS_ap, addF_ii, addF_tt, addF_ll, addF_ss, mulF_ii, mulF_tt, mulF_ll, subF_ii, ltF_ii, leF_ii, gtF_ii, geF_ii, modF_ii, divF_ii, powF_ii, cutD_lo, cutD_hi, cutD_mid, cutD_m1, mYes_ap, truD, isi_set_int, isi_set_bool, isi_set_tuple, isi_set_list, isi_set_str, isi_set_dict, mLc_ap, allF_f, anyF_f, isi_non_int, isi_bl_int, isi_int_int, isi_str_int, isi_tup_int, isi_lst_int, isi_dK_int, isi_dT_int, isi_non_bool, isi_bl_bool, isi_int_bool, isi_str_bool, isi_tup_bool, isi_lst_bool, isi_dK_bool, isi_dT_bool, isi_non_tuple, isi_bl_tuple, isi_int_tuple, isi_str_tuple, isi_tup_tuple, isi_lst_tuple, isi_dK_tuple, isi_dT_tuple, isi_non_list, isi_bl_list, isi_int_list, isi_str_list, isi_tup_list, isi_lst_list, isi_dK_list, isi_dT_list, isi_non_str, isi_bl_str, isi_int_str, isi_str_str, isi_tup_str, isi_lst_str, isi_dK_str, isi_dT_str, isi_non_dict, isi_bl_dict, isi_int_dict, isi_str_dict, isi_tup_dict, isi_lst_dict, isi_dK_dict, isi_dT_dict, eqF_int, neF_int, eqF_bl, neF_bl, eqF_T, neF_T, eqF_Tm, neF_Tm, bndR_ok, bndR_none, bnd_ap, ret_ap, stuck_ap, mVar_ap, kVar_fz, kVar_ow, kVar_io, mC_ap, content_val, content_new, content_bor, slD_fz, slD_ow, slD_io, rv_f, rv_t, val_eq, new_eq, kRz_some, kRz_none, kP1_some, prim1_ap, kP2_some, prim2_ap, mBin_ap, kBin_ap, kBin2_ap, mUn_ap, kUn_ap, mTest_ap, kTest_ap, mTruth_ap, kTruth_ap, kTru_some, mNotT_ap, kNot_ap, mAndT_ap, mOrT_ap, kAnd_t, kAnd_f, kOr_t, kOr_f, mIf_ap, mIte_ap, kIf_t, kIf_f, mAndV_ap, mOrV_ap, kAndV_t, kAndV_f, kOrV_t, kOrV_f, mChain_ap, kCh1_ap, kCh2_ap, kCh3_ap, kLink_t, kLink_f, mChain3_ap, kC31_ap, kC32_ap, settle_val, settle_new, settle_bor, kSl_fz, kSl_ow, kOk_some, mD_ap, kD_ap, mCons_ap, kCons1_ap, kCons2_ap, mNil_ap, mStar_ap, kStar_ap, kStar1_some, kStar2_ap, mTup_ap, mLst_ap, kTup_ok, kLst_ok, mDict0_ap, mNoPart_ap, mPart_ap, kPart_ap, mSl_ap, kS1_ap, kS2_ap, kS3_ap, kS4_some, mRNil_ap, mRCons_ap, kR1_ap, kR2_ap, contents_nil, contents_cons, kCts_some, mCallB_ap, kCB_ap, kCB1_some, mArg_ap, kArg_f, kArg_val, kArg_new, kArg_bor, kArB_ow, kArB_io, mANil_ap, mACons_ap, kA1_ap, kA2_ap, mCall_ap, kCall_ap, kCall1_some, kFin_ok, owned_ow, owned_io, owned_fz, slsOf_nil, slsOf_pl, slsOf_tp, slsOf_ob, kOb_some, back_nil, back_pl, back_tp, back_ob, obs_nil, obs_pl, obs_tp, obs_ob, tps_nil, tps_pl, tps_tp, tps_ob, setOwn_ap, kSO_ow, kSO_io, mMut_ap, kMut0_some, kMut_some, mHas_ap, kHas_lst, mAppend_ap, kApp_ap, mPop_ap, mExtend_ap, kExt_ap, kExt1_some, appF_ok, extF_ok, popF_snoc, mSeq_ap, kSeq_nx, kSeq_rt, kSeq_bk, kSeq_ct, mSkip_ap, mBrk_ap, mCnt_ap, mExpr_ap, kDrop_ap, mRet_ap, kRet_val, kRet_new, kRet_bor, kRetB_fz, kRetB_ow, mRetN_ap, kNx_some, mSet_ap, kSet_ap, setSl_ap, kSS_no, kSS_fz, kSS_ow, kSS_pl, z1, z2, z3, z4, z5, z6, z7, z8, z9, z10, z11, z12, z13, z14, z15, z16, z17, z18, z19, z20, ixF_lst0, ixF_lst1, ixF_lst2, ixF_lst3, ixF_lstm, ixF_tup0, ixF_tup1, ixF_tup2, ixF_tup3, ixF_tupm, ixF_rol0, ixF_rol1, ixF_rol2, ixF_rol3, ixF_rolm, setF_0, setF_1, setF_2, setF_3, putRv_val, putRv_new, putRv_bor, noIo_no, noIo_fz, noIo_ow, mAsg_ap, kAsg_ap, gNm_ap, gTp_ap, gsNil_ap, gsCons_ap, mSt_ap, kSt_val, kSt_new, kSt_bor, mPNil_ap, mPCons_ap, kPC1_ap, mPar_ap, kPar_ap, putN_nil, putN_cons, mAug_ap, kAug_fz, kAug1_ap, mSetIx_ap, kIx_ap, kIx1_some, kIx2_ap, kIx3_some, kIx5_some, kIx4_some, setF_ok, mTurn_ap, kTurn_nx, kTurn_ct, kTurn_bk, kTurn_rt, kWh_t, kWh_f, forF_nil, kFor_some, semFn_ap, kFn_rt, kFn_nx, plain_fz, plain_io, mItems_ap, kIt_val, kIt_new, kIt_bor, kItB_fz, kItB_ow, kItB_io, kSrc_some, items_tup, items_lst, items_rol, mRng_ap, kRn_ap, kR_some, plainArg, val, new, negF, notF, lenF, absF, intF, boolF, max2F, min2F, tupleF, listF, fI, fI0, slF, isL, Rz.rv, eq_self, List.getElem?_cons_succ, List.getElem?_cons_zero, List.set_cons_succ, List.set_cons_zero, Option.map_some, Option.map_none, Option.bind_some, decide_true, decide_false, decide_not, Bool.not_true, Bool.not_false, Bool.true_and, Bool.and_true, Bool.false_and, Bool.and_false, Bool.true_or, Bool.or_true, Bool.false_or, Bool.or_false, List.nil_append, List.cons_append, List.append_nil, List.length_cons, List.length_nil, List.length_append, List.length_map, List.replicate_succ, List.replicate_zero, List.all_cons, List.all_nil, if_true, if_false, ite_true, ite_false, Nat.sub_self, Nat.reduceAdd, Nat.reduceSub, Nat.reduceLeDiff, Nat.reduceLT, List.take_succ_cons, List.take_zero, true_and, and_true, not_true, not_false_eq_true, and_self, List.nodup_nil, List.nodup_cons, List.mem_cons, List.not_mem_nil, or_false, false_or, List.map_cons, List.map_nil, List.map_append, Bool.decide_eq_true, Nat.zero_le, Bool.cond_true, Bool.cond_false, ↓reduceIte, reduceCtorEq, Int.reduceLT, Int.reduceLE, Int.reduceNeg, Int.reduceAdd, Int.reduceMul, Int.reduceSub, Int.reduceEq, Nat.reduceEqDiff, Nat.zero_add, id, n2, w__law_is_term_1]
    | dT b =>
      refine .inl ⟨by simp [termL], .fz (.int i), .fz (.dT b), ?_⟩
      simp -implicitDefEqProofs only [kR_r1, kR_r2, kR_r3d, intsD, mFor_ap, kForS_ap, addF_ii, addF_tt, addF_ll, addF_ss, mulF_ii, mulF_tt, mulF_ll, subF_ii, ltF_ii, leF_ii, gtF_ii, geF_ii, modF_ii, divF_ii, powF_ii, cutD_lo, cutD_hi, cutD_mid, cutD_m1, mYes_ap, truD, isi_set_int, isi_set_bool, isi_set_tuple, isi_set_list, isi_set_str, isi_set_dict, mLc_ap, allF_f, anyF_f, isi_non_int, isi_bl_int, isi_int_int, isi_str_int, isi_tup_int, isi_lst_int, isi_dK_int, isi_dT_int, isi_non_bool, isi_bl_bool, isi_int_bool, isi_str_bool, isi_tup_bool, isi_lst_bool, isi_dK_bool, isi_dT_bool, isi_non_tuple, isi_bl_tuple, isi_int_tuple, isi_str_tuple, isi_tup_tuple, isi_lst_tuple, isi_dK_tuple, isi_dT_tuple, isi_non_list, isi_bl_list, isi_int_list, isi_str_list, isi_tup_list, isi_lst_list, isi_dK_list, isi_dT_list, isi_non_str, isi_bl_str, isi_int_str, isi_str_str, isi_tup_str, isi_lst_str, isi_dK_str, isi_dT_str, isi_non_dict, isi_bl_dict, isi_int_dict, isi_str_dict, isi_tup_dict, isi_lst_dict, isi_dK_dict, isi_dT_dict, eqF_int, neF_int, eqF_bl, neF_bl, eqF_T, neF_T, eqF_Tm, neF_Tm, bndR_ok, bndR_none, bnd_ap, ret_ap, stuck_ap, mVar_ap, kVar_fz, kVar_ow, kVar_io, mC_ap, content_val, content_new, content_bor, slD_fz, slD_ow, slD_io, rv_f, rv_t, val_eq, new_eq, kRz_some, kRz_none, kP1_some, prim1_ap, kP2_some, prim2_ap, mBin_ap, kBin_ap, kBin2_ap, mUn_ap, kUn_ap, mTest_ap, kTest_ap, mTruth_ap, kTruth_ap, kTru_some, mNotT_ap, kNot_ap, mAndT_ap, mOrT_ap, kAnd_t, kAnd_f, kOr_t, kOr_f, mIf_ap, mIte_ap, kIf_t, kIf_f, mAndV_ap, mOrV_ap, kAndV_t, kAndV_f, kOrV_t, kOrV_f, mChain_ap, kCh1_ap, kCh2_ap, kCh3_ap, kLink_t, kLink_f, mChain3_ap, kC31_ap, kC32_ap, settle_val, settle_new, settle_bor, kSl_fz, kSl_ow, kOk_some, mD_ap, kD_ap, mCons_ap, kCons1_ap, kCons2_ap, mNil_ap, mStar_ap, kStar_ap, kStar1_some, kStar2_ap, mTup_ap, mLst_ap, kTup_ok, kLst_ok, mDict0_ap, mNoPart_ap, mPart_ap, kPart_ap, mSl_ap, kS1_ap, kS2_ap, kS3_ap, kS4_some, mRNil_ap, mRCons_ap, kR1_ap, kR2_ap, contents_nil, contents_cons, kCts_some, mCallB_ap, kCB_ap, kCB1_some, mArg_ap, kArg_f, kArg_val, kArg_new, kArg_bor, kArB_ow, kArB_io, mANil_ap, mACons_ap, kA1_ap, kA2_ap, mCall_ap, kCall_ap, kCall1_some, kFin_ok, owned_ow, owned_io, owned_fz, slsOf_nil, slsOf_pl, slsOf_tp, slsOf_ob, kOb_some, back_nil, back_pl, back_tp, back_ob, obs_nil, obs_pl, obs_tp, obs_ob, tps_nil, tps_pl, tps_tp, tps_ob, setOwn_ap, kSO_ow, kSO_io, mMut_ap, kMut0_some, kMut_some, mHas_ap, kHas_lst, mAppend_ap, kApp_ap, mPop_ap, mExtend_ap, kExt_ap, kExt1_some, appF_ok, extF_ok, popF_snoc, mSeq_ap, kSeq_nx, kSeq_rt, kSeq_bk, kSeq_ct, mSkip_ap, mBrk_ap, mCnt_ap, mExpr_ap, kDrop_ap, mRet_ap, kRet_val, kRet_new, kRet_bor, kRetB_fz, kRetB_ow, mRetN_ap, kNx_some, mSet_ap, kSet_ap, setSl_ap, kSS_no, kSS_fz, kSS_ow, kSS_pl, z1, z2, z3, z4, z5, z6, z7, z8, z9, z10, z11, z12, z13, z14, z15, z16, z17, z18, z19, z20, ixF_lst0, ixF_lst1, ixF_lst2, ixF_lst3, ixF_lstm, ixF_tup0, ixF_tup1, ixF_tup2, ixF_tup3, ixF_tupm, ixF_rol0, ixF_rol1, ixF_rol2, ixF_rol3, ixF_rolm, setF_0, setF_1, setF_2, setF_3, putRv_val, putRv_new, putRv_bor, noIo_no, noIo_fz, noIo_ow, mAsg_ap, kAsg_ap, gNm_ap, gTp_ap, gsNil_ap, gsCons_ap, mSt_ap, kSt_val, kSt_new, kSt_bor, mPNil_ap, mPCons_ap, kPC1_ap, mPar_ap, kPar_ap, putN_nil, putN_cons, mAug_ap, kAug_fz, kAug1_ap, mSetIx_ap, kIx_ap, kIx1_some, kIx2_ap, kIx3_some, kIx5_some, kIx4_some, setF_ok, mTurn_ap, kTurn_nx, kTurn_ct, kTurn_bk, kTurn_rt, kWh_t, kWh_f, forF_nil, kFor_some, semFn_ap, kFn_rt, kFn_nx, plain_fz, plain_io, mItems_ap, kIt_val, kIt_new, kIt_bor, kItB_fz, kItB_ow, kItB_io, kSrc_some, items_tup, items_lst, items_rol, mRng_ap, kRn_ap, kR_some, plainArg, val, new, negF, notF, lenF, absF, intF, boolF, max2F, min2F, tupleF, listF, fI, fI0, slF, isL, Rz.rv, eq_self, List.getElem?_cons_succ, List.getElem?_cons_zero, List.set_cons_succ, List.set_cons_zero, Option.map_some, Option.map_none, Option.bind_some, decide_true, decide_false, decide_not, Bool.not_true, Bool.not_false, Bool.true_and, Bool.and_true, Bool.false_and, Bool.and_false, Bool.true_or, Bool.or_true, Bool.false_or, Bool.or_false, List.nil_append, List.cons_append, List.append_nil, List.length_cons, List.length_nil, List.length_append, List.length_map, List.replicate_succ, List.replicate_zero, List.all_cons, List.all_nil, if_true, if_false, ite_true, ite_false, Nat.sub_self, Nat.reduceAdd, Nat.reduceSub, Nat.reduceLeDiff, Nat.reduceLT, List.take_succ_cons, List.take_zero, true_and, and_true, not_true, not_false_eq_true, and_self, List.nodup_nil, List.nodup_cons, List.mem_cons, List.not_mem_nil, or_false, false_or, List.map_cons, List.map_nil, List.map_append, Bool.decide_eq_true, Nat.zero_le, Bool.cond_true, Bool.cond_false, ↓reduceIte, reduceCtorEq, Int.reduceLT, Int.reduceLE, Int.reduceNeg, Int.reduceAdd, Int.reduceMul, Int.reduceSub, Int.reduceEq, Nat.reduceEqDiff, Nat.zero_add, id, n2, w__law_is_term_1]
    | set b c =>
      refine .inl ⟨by simp [termL], .fz (.int i), .fz (.set b c), ?_⟩
      simp -implicitDefEqProofs only [kR_r1, kR_r2, kR_r3d, intsD, mFor_ap, kForS_ap, addF_ii, addF_tt, addF_ll, addF_ss, mulF_ii, mulF_tt, mulF_ll, subF_ii, ltF_ii, leF_ii, gtF_ii, geF_ii, modF_ii, divF_ii, powF_ii, cutD_lo, cutD_hi, cutD_mid, cutD_m1, mYes_ap, truD, isi_set_int, isi_set_bool, isi_set_tuple, isi_set_list, isi_set_str, isi_set_dict, mLc_ap, allF_f, anyF_f, isi_non_int, isi_bl_int, isi_int_int, isi_str_int, isi_tup_int, isi_lst_int, isi_dK_int, isi_dT_int, isi_non_bool, isi_bl_bool, isi_int_bool, isi_str_bool, isi_tup_bool, isi_lst_bool, isi_dK_bool, isi_dT_bool, isi_non_tuple, isi_bl_tuple, isi_int_tuple, isi_str_tuple, isi_tup_tuple, isi_lst_tuple, isi_dK_tuple, isi_dT_tuple, isi_non_list, isi_bl_list, isi_int_list, isi_str_list, isi_tup_list, isi_lst_list, isi_dK_list, isi_dT_list, isi_non_str, isi_bl_str, isi_int_str, isi_str_str, isi_tup_str, isi_lst_str, isi_dK_str, isi_dT_str, isi_non_dict, isi_bl_dict, isi_int_dict, isi_str_dict, isi_tup_dict, isi_lst_dict, isi_dK_dict, isi_dT_dict, eqF_int, neF_int, eqF_bl, neF_bl, eqF_T, neF_T, eqF_Tm, neF_Tm, bndR_ok, bndR_none, bnd_ap, ret_ap, stuck_ap, mVar_ap, kVar_fz, kVar_ow, kVar_io, mC_ap, content_val, content_new, content_bor, slD_fz, slD_ow, slD_io, rv_f, rv_t, val_eq, new_eq, kRz_some, kRz_none, kP1_some, prim1_ap, kP2_some, prim2_ap, mBin_ap, kBin_ap, kBin2_ap, mUn_ap, kUn_ap, mTest_ap, kTest_ap, mTruth_ap, kTruth_ap, kTru_some, mNotT_ap, kNot_ap, mAndT_ap, mOrT_ap, kAnd_t, kAnd_f, kOr_t, kOr_f, mIf_ap, mIte_ap, kIf_t, kIf_f, mAndV_ap, mOrV_ap, kAndV_t, kAndV_f, kOrV_t, kOrV_f, mChain_ap, kCh1_ap, kCh2_ap, kCh3_ap, kLink_t, kLink_f, mChain3_ap, kC31_ap, kC32_ap, settle_val, settle_new, settle_bor, kSl_fz, kSl_ow, kOk_some, mD_ap, kD_ap, mCons_ap, kCons1_ap, kCons2_ap, mNil_ap, mStar_ap, kStar_ap, kStar1_some, kStar2_ap, mTup_ap, mLst_ap, kTup_ok, kLst_ok, mDict0_ap, mNoPart_ap, mPart_ap, kPart_ap, mSl_ap, kS1_ap, kS2_ap, kS3_ap, kS4_some, mRNil_ap, mRCons_ap, kR1_ap, kR2_ap, contents_nil, contents_cons, kCts_some, mCallB_ap, kCB_ap, kCB1_some, mArg_ap, kArg_f, kArg_val, kArg_new, kArg_bor, kArB_ow, kArB_io, mANil_ap, mACons_ap, kA1_ap, kA2_ap, mCall_ap, kCall_ap, kCall1_some, kFin_ok, owned_ow, owned_io, owned_fz, slsOf_nil, slsOf_pl, slsOf_tp, slsOf_ob, kOb_some, back_nil, back_pl, back_tp, back_ob, obs_nil, obs_pl, obs_tp, obs_ob, tps_nil, tps_pl, tps_tp, tps_ob, setOwn_ap, kSO_ow, kSO_io, mMut_ap, kMut0_some, kMut_some, mHas_ap, kHas_lst, mAppend_ap, kApp_ap, mPop_ap, mExtend_ap, kExt_ap, kExt1_some, appF_ok, extF_ok, popF_snoc, mSeq_ap, kSeq_nx, kSeq_rt, kSeq_bk, kSeq_ct, mSkip_ap, mBrk_ap, mCnt_ap, mExpr_ap, kDrop_ap, mRet_ap, kRet_val, kRet_new, kRet_bor, kRetB_fz, kRetB_ow, mRetN_ap, kNx_some, mSet_ap, kSet_ap, setSl_ap, kSS_no, kSS_fz, kSS_ow, kSS_pl, z1, z2, z3, z4, z5, z6, z7, z8, z9, z10, z11, z12, z13, z14, z15, z16, z17, z18, z19, z20, ixF_lst0, ixF_lst1, ixF_lst2, ixF_lst3, ixF_lstm, ixF_tup0, ixF_tup1, ixF_tup2, ixF_tup3, ixF_tupm, ixF_rol0, ixF_rol1, ixF_rol2, ixF_rol3, ixF_rolm, setF_0, setF_1, setF_2, setF_3, putRv_val, putRv_new, putRv_bor, noIo_no, noIo_fz, noIo_ow, mAsg_ap, kAsg_ap, gNm_ap, gTp_ap, gsNil_ap, gsCons_ap, mSt_ap, kSt_val, kSt_new, kSt_bor, mPNil_ap, mPCons_ap, kPC1_ap, mPar_ap, kPar_ap, putN_nil, putN_cons, mAug_ap, kAug_fz, kAug1_ap, mSetIx_ap, kIx_ap, kIx1_some, kIx2_ap, kIx3_some, kIx5_some, kIx4_some, setF_ok, mTurn_ap, kTurn_nx, kTurn_ct, kTurn_bk, kTurn_rt, kWh_t, kWh_f, forF_nil, kFor_some, semFn_ap, kFn_rt, kFn_nx, plain_fz, plain_io, mItems_ap, kIt_val, kIt_new, kIt_bor, kItB_fz, kItB_ow, kItB_io, kSrc_some, items_tup, items_lst, items_rol, mRng_ap, kRn_ap, kR_some, plainArg, val, new, negF, notF, lenF, absF, intF, boolF, max2F, min2F, tupleF, listF, fI, fI0, slF, isL, Rz.rv, eq_self, List.getElem?_cons_succ, List.getElem?_cons_zero, List.set_cons_succ, List.set_cons_zero, Option.map_some, Option.map_none, Option.bind_some, decide_true, decide_false, decide_not, Bool.not_true, Bool.not_false, Bool.true_and, Bool.and_true, Bool.false_and, Bool.and_false, Bool.true_or, Bool.or_true, Bool.false_or, Bool.or_false, List.nil_append, List.cons_append, List.append_nil, List.length_cons, List.length_nil, List.length_append, List.length_map, List.replicate_succ, List.replicate_zero, List.all_cons, List.all_nil, if_true, if_false, ite_true, ite_false, Nat.sub_self, Nat.reduceAdd, Nat.reduceSub, Nat.reduceLeDiff, Nat.reduceLT, List.take_succ_cons, List.take_zero, true_and, and_true, not_true, not_false_eq_true, and_self, List.nodup_nil, List.nodup_cons, List.mem_cons, List.not_mem_nil, or_false, false_or, List.map_cons, List.map_nil, List.map_append, Bool.decide_eq_true, Nat.zero_le, Bool.cond_true, Bool.cond_false, ↓reduceIte, reduceCtorEq, Int.reduceLT, Int.reduceLE, Int.reduceNeg, Int.reduceAdd, Int.reduceMul, Int.reduceSub, Int.reduceEq, Nat.reduceEqDiff, Nat.zero_add, id, n2, w__law_is_term_1]
theorem law_is_term_ok {d : D} (h : okV d) (hs : ∀ ds, d = .tup ds → ∀ x ∈ ds, okV x) : s__law_is_term [.fz d] = some (.ok (false, .bl (isT d)) [.fz d]) := by
  obtain ⟨T, h⟩ := h
  cases d with
  | rol _ => cases h
  | oth _ => cases h
  | tup ds =>
    have ei : mItems (mVar 0) [.fz (.tup ds), .fz (.int 1), .no] = some (.ok (ds, none) [.fz (.tup ds), .fz (.int 1), .no]) := rfl
    have te : isT (.tup ds) = (decide (1 ≤ ds.length) && decide (ds.length ≤ 400) && termL 1 ds) := by rw [termL_eq]; rfl
    by_cases l1 : 1 ≤ ds.length
    · have l1' : (1 : Int) ≤ (ds.length : Int) := by omega
      by_cases l2 : ds.length ≤ 400
      · have l2' : (ds.length : Int) ≤ 400 := by omega
        rcases law_loop (.tup ds) ds 1 1 .no rfl rfl (hs ds rfl) with ⟨h, s1, s2, q⟩ | ⟨k', s2, h, q⟩
        · simp -implicitDefEqProofs only [kR_r1, kR_r2, kR_r3d, intsD, mFor_ap, kForS_ap, addF_ii, addF_tt, addF_ll, addF_ss, mulF_ii, mulF_tt, mulF_ll, subF_ii, ltF_ii, leF_ii, gtF_ii, geF_ii, modF_ii, divF_ii, powF_ii, cutD_lo, cutD_hi, cutD_mid, cutD_m1, mYes_ap, truD, isi_set_int, isi_set_bool, isi_set_tuple, isi_set_list, isi_set_str, isi_set_dict, mLc_ap, allF_f, anyF_f, isi_non_int, isi_bl_int, isi_int_int, isi_str_int, isi_tup_int, isi_lst_int, isi_dK_int, isi_dT_int, isi_non_bool, isi_bl_bool, isi_int_bool, isi_str_bool, isi_tup_bool, isi_lst_bool, isi_dK_bool, isi_dT_bool, isi_non_tuple, isi_bl_tuple, isi_int_tuple, isi_str_tuple, isi_tup_tuple, isi_lst_tuple, isi_dK_tuple, isi_dT_tuple, isi_non_list, isi_bl_list, isi_int_list, isi_str_list, isi_tup_list, isi_lst_list, isi_dK_list, isi_dT_list, isi_non_str, isi_bl_str, isi_int_str, isi_str_str, isi_tup_str, isi_lst_str, isi_dK_str, isi_dT_str, isi_non_dict, isi_bl_dict, isi_int_dict, isi_str_dict, isi_tup_dict, isi_lst_dict, isi_dK_dict, isi_dT_dict, eqF_int, neF_int, eqF_bl, neF_bl, eqF_T, neF_T, eqF_Tm, neF_Tm, bndR_ok, bndR_none, bnd_ap, ret_ap, stuck_ap, mVar_ap, kVar_fz, kVar_ow, kVar_io, mC_ap, content_val, content_new, content_bor, slD_fz, slD_ow, slD_io, rv_f, rv_t, val_eq, new_eq, kRz_some, kRz_none, kP1_some, prim1_ap, kP2_some, prim2_ap, mBin_ap, kBin_ap, kBin2_ap, mUn_ap, kUn_ap, mTest_ap, kTest_ap, mTruth_ap, kTruth_ap, kTru_some, mNotT_ap, kNot_ap, mAndT_ap, mOrT_ap, kAnd_t, kAnd_f, kOr_t, kOr_f, mIf_ap, mIte_ap, kIf_t, kIf_f, mAndV_ap, mOrV_ap, kAndV_t, kAndV_f, kOrV_t, kOrV_f, mChain_ap, kCh1_ap, kCh2_ap, kCh3_ap, kLink_t, kLink_f, mChain3_ap, kC31_ap, kC32_ap, settle_val, settle_new, settle_bor, kSl_fz, kSl_ow, kOk_some, mD_ap, kD_ap, mCons_ap, kCons1_ap, kCons2_ap, mNil_ap, mStar_ap, kStar_ap, kStar1_some, kStar2_ap, mTup_ap, mLst_ap, kTup_ok, kLst_ok, mDict0_ap, mNoPart_ap, mPart_ap, kPart_ap, mSl_ap, kS1_ap, kS2_ap, kS3_ap, kS4_some, mRNil_ap, mRCons_ap, kR1_ap, kR2_ap, contents_nil, contents_cons, kCts_some, mCallB_ap, kCB_ap, kCB1_some, mArg_ap, kArg_f, kArg_val, kArg_new, kArg_bor, kArB_ow, kArB_io, mANil_ap, mACons_ap, kA1_ap, kA2_ap, mCall_ap, kCall_ap, kCall1_some, kFin_ok, owned_ow, owned_io, owned_fz, slsOf_nil, slsOf_pl, slsOf_tp, slsOf_ob, kOb_some, back_nil, back_pl, back_tp, back_ob, obs_nil, obs_pl, obs_tp, obs_ob, tps_nil, tps_pl, tps_tp, tps_ob, setOwn_ap, kSO_ow, kSO_io, mMut_ap, kMut0_some, kMut_some, mHas_ap, kHas_lst, mAppend_ap, kApp_ap, mPop_ap, mExtend_ap, kExt_ap, kExt1_some, appF_ok, extF_ok, popF_snoc, mSeq_ap, kSeq_nx, kSeq_rt, kSeq_bk, kSeq_ct, mSkip_ap, mBrk_ap, mCnt_ap, mExpr_ap, kDrop_ap, mRet_ap, kRet_val, kRet_new, kRet_bor, kRetB_fz, kRetB_ow, mRetN_ap, kNx_some, mSet_ap, kSet_ap, setSl_ap, kSS_no, kSS_fz, kSS_ow, kSS_pl, z1, z2, z3, z4, z5, z6, z7, z8, z9, z10, z11, z12, z13, z14, z15, z16, z17, z18, z19, z20, ixF_lst0, ixF_lst1, ixF_lst2, ixF_lst3, ixF_lstm, ixF_tup0, ixF_tup1, ixF_tup2, ixF_tup3, ixF_tupm, ixF_rol0, ixF_rol1, ixF_rol2, ixF_rol3, ixF_rolm, setF_0, setF_1, setF_2, setF_3, putRv_val, putRv_new, putRv_bor, noIo_no, noIo_fz, noIo_ow, mAsg_ap, kAsg_ap, gNm_ap, gTp_ap, gsNil_ap, gsCons_ap, mSt_ap, kSt_val, kSt_new, kSt_bor, mPNil_ap, mPCons_ap, kPC1_ap, mPar_ap, kPar_ap, putN_nil, putN_cons, mAug_ap, kAug_fz, kAug1_ap, mSetIx_ap, kIx_ap, kIx1_some, kIx2_ap, kIx3_some, kIx5_some, kIx4_some, setF_ok, mTurn_ap, kTurn_nx, kTurn_ct, kTurn_bk, kTurn_rt, kWh_t, kWh_f, forF_nil, kFor_some, semFn_ap, kFn_rt, kFn_nx, plain_fz, plain_io, mItems_ap, kIt_val, kIt_new, kIt_bor, kItB_fz, kItB_ow, kItB_io, kSrc_some, items_tup, items_lst, items_rol, mRng_ap, kRn_ap, kR_some, plainArg, val, new, negF, notF, lenF, absF, intF, boolF, max2F, min2F, tupleF, listF, fI, fI0, slF, isL, Rz.rv, eq_self, List.getElem?_cons_succ, List.getElem?_cons_zero, List.set_cons_succ, List.set_cons_zero, Option.map_some, Option.map_none, Option.bind_some, decide_true, decide_false, decide_not, Bool.not_true, Bool.not_false, Bool.true_and, Bool.and_true, Bool.false_and, Bool.and_false, Bool.true_or, Bool.or_true, Bool.false_or, Bool.or_false, List.nil_append, List.cons_append, List.append_nil, List.length_cons, List.length_nil, List.length_append, List.length_map, List.replicate_succ, List.replicate_zero, List.all_cons, List.all_nil, if_true, if_false, ite_true, ite_false, Nat.sub_self, Nat.reduceAdd, Nat.reduceSub, Nat.reduceLeDiff, Nat.reduceLT, List.take_succ_cons, List.take_zero, true_and, and_true, not_true, not_false_eq_true, and_self, List.nodup_nil, List.nodup_cons, List.mem_cons, List.not_mem_nil, or_false, false_or, List.map_cons, List.map_nil, List.map_append, Bool.decide_eq_true, Nat.zero_le, Bool.cond_true, Bool.cond_false, ↓reduceIte, reduceCtorEq, Int.reduceLT, Int.reduceLE, Int.reduceNeg, Int.reduceAdd, Int.reduceMul, Int.reduceSub, Int.reduceEq, Nat.reduceEqDiff, Nat.zero_add, id, s__law_is_term, b__law_is_term, mFor_eq ei, q, h, te, l1, l2, l1', l2']
        · simp -implicitDefEqProofs only [kR_r1, kR_r2, kR_r3d, intsD, mFor_ap, kForS_ap, addF_ii, addF_tt, addF_ll, addF_ss, mulF_ii, mulF_tt, mulF_ll, subF_ii, ltF_ii, leF_ii, gtF_ii, geF_ii, modF_ii, divF_ii, powF_ii, cutD_lo, cutD_hi, cutD_mid, cutD_m1, mYes_ap, truD, isi_set_int, isi_set_bool, isi_set_tuple, isi_set_list, isi_set_str, isi_set_dict, mLc_ap, allF_f, anyF_f, isi_non_int, isi_bl_int, isi_int_int, isi_str_int, isi_tup_int, isi_lst_int, isi_dK_int, isi_dT_int, isi_non_bool, isi_bl_bool, isi_int_bool, isi_str_bool, isi_tup_bool, isi_lst_bool, isi_dK_bool, isi_dT_bool, isi_non_tuple, isi_bl_tuple, isi_int_tuple, isi_str_tuple, isi_tup_tuple, isi_lst_tuple, isi_dK_tuple, isi_dT_tuple, isi_non_list, isi_bl_list, isi_int_list, isi_str_list, isi_tup_list, isi_lst_list, isi_dK_list, isi_dT_list, isi_non_str, isi_bl_str, isi_int_str, isi_str_str, isi_tup_str, isi_lst_str, isi_dK_str, isi_dT_str, isi_non_dict, isi_bl_dict, isi_int_dict, isi_str_dict, isi_tup_dict, isi_lst_dict, isi_dK_dict, isi_dT_dict, eqF_int, neF_int, eqF_bl, neF_bl, eqF_T, neF_T, eqF_Tm, neF_Tm, bndR_ok, bndR_none, bnd_ap, ret_ap, stuck_ap, mVar_ap, kVar_fz, kVar_ow, kVar_io, mC_ap, content_val, content_new, content_bor, slD_fz, slD_ow, slD_io, rv_f, rv_t, val_eq, new_eq, kRz_some, kRz_none, kP1_some, prim1_ap, kP2_some, prim2_ap, mBin_ap, kBin_ap, kBin2_ap, mUn_ap, kUn_ap, mTest_ap, kTest_ap, mTruth_ap, kTruth_ap, kTru_some, mNotT_ap, kNot_ap, mAndT_ap, mOrT_ap, kAnd_t, kAnd_f, kOr_t, kOr_f, mIf_ap, mIte_ap, kIf_t, kIf_f, mAndV_ap, mOrV_ap, kAndV_t, kAndV_f, kOrV_t, kOrV_f, mChain_ap, kCh1_ap, kCh2_ap, kCh3_ap, kLink_t, kLink_f, mChain3_ap, kC31_ap, kC32_ap, settle_val, settle_new, settle_bor, kSl_fz, kSl_ow, kOk_some, mD_ap, kD_ap, mCons_ap, kCons1_ap, kCons2_ap, mNil_ap, mStar_ap, kStar_ap, kStar1_some, kStar2_ap, mTup_ap, mLst_ap, kTup_ok, kLst_ok, mDict0_ap, mNoPart_ap, mPart_ap, kPart_ap, mSl_ap, kS1_ap, kS2_ap, kS3_ap, kS4_some, mRNil_ap, mRCons_ap, kR1_ap, kR2_ap, contents_nil, contents_cons, kCts_some, mCallB_ap, kCB_ap, kCB1_some, mArg_ap, kArg_f, kArg_val, kArg_new, kArg_bor, kArB_ow, kArB_io, mANil_ap, mACons_ap, kA1_ap, kA2_ap, mCall_ap, kCall_ap, kCall1_some, kFin_ok, owned_ow, owned_io, owned_fz, slsOf_nil, slsOf_pl, slsOf_tp, slsOf_ob, kOb_some, back_nil, back_pl, back_tp, back_ob, obs_nil, obs_pl, obs_tp, obs_ob, tps_nil, tps_pl, tps_tp, tps_ob, setOwn_ap, kSO_ow, kSO_io, mMut_ap, kMut0_some, kMut_some, mHas_ap, kHas_lst, mAppend_ap, kApp_ap, mPop_ap, mExtend_ap, kExt_ap, kExt1_some, appF_ok, extF_ok, popF_snoc, mSeq_ap, kSeq_nx, kSeq_rt, kSeq_bk, kSeq_ct, mSkip_ap, mBrk_ap, mCnt_ap, mExpr_ap, kDrop_ap, mRet_ap, kRet_val, kRet_new, kRet_bor, kRetB_fz, kRetB_ow, mRetN_ap, kNx_some, mSet_ap, kSet_ap, setSl_ap, kSS_no, kSS_fz, kSS_ow, kSS_pl, z1, z2, z3, z4, z5, z6, z7, z8, z9, z10, z11, z12, z13, z14, z15, z16, z17, z18, z19, z20, ixF_lst0, ixF_lst1, ixF_lst2, ixF_lst3, ixF_lstm, ixF_tup0, ixF_tup1, ixF_tup2, ixF_tup3, ixF_tupm, ixF_rol0, ixF_rol1, ixF_rol2, ixF_rol3, ixF_rolm, setF_0, setF_1, setF_2, setF_3, putRv_val, putRv_new, putRv_bor, noIo_no, noIo_fz, noIo_ow, mAsg_ap, kAsg_ap, gNm_ap, gTp_ap, gsNil_ap, gsCons_ap, mSt_ap, kSt_val, kSt_new, kSt_bor, mPNil_ap, mPCons_ap, kPC1_ap, mPar_ap, kPar_ap, putN_nil, putN_cons, mAug_ap, kAug_fz, kAug1_ap, mSetIx_ap, kIx_ap, kIx1_some, kIx2_ap, kIx3_some, kIx5_some, kIx4_some, setF_ok, mTurn_ap, kTurn_nx, kTurn_ct, kTurn_bk, kTurn_rt, kWh_t, kWh_f, forF_nil, kFor_some, semFn_ap, kFn_rt, kFn_nx, plain_fz, plain_io, mItems_ap, kIt_val, kIt_new, kIt_bor, kItB_fz, kItB_ow, kItB_io, kSrc_some, items_tup, items_lst, items_rol, mRng_ap, kRn_ap, kR_some, plainArg, val, new, negF, notF, lenF, absF, intF, boolF, max2F, min2F, tupleF, listF, fI, fI0, slF, isL, Rz.rv, eq_self, List.getElem?_cons_succ, List.getElem?_cons_zero, List.set_cons_succ, List.set_cons_zero, Option.map_some, Option.map_none, Option.bind_some, decide_true, decide_false, decide_not, Bool.not_true, Bool.not_false, Bool.true_and, Bool.and_true, Bool.false_and, Bool.and_false, Bool.true_or, Bool.or_true, Bool.false_or, Bool.or_false, List.nil_append, List.cons_append, List.append_nil, List.length_cons, List.length_nil, List.length_append, List.length_map, List.replicate_succ, List.replicate_zero, List.all_cons, List.all_nil, if_true, if_false, ite_true, ite_false, Nat.sub_self, Nat.reduceAdd, Nat.reduceSub, Nat.reduceLeDiff, Nat.reduceLT, List.take_succ_cons, List.take_zero, true_and, and_true, not_true, not_false_eq_true, and_self, List.nodup_nil, List.nodup_cons, List.mem_cons, List.not_mem_nil, or_false, false_or, List.map_cons, List.map_nil, List.map_append, Bool.decide_eq_true, Nat.zero_le, Bool.cond_true, Bool.cond_false, ↓reduceIte, reduceCtorEq, Int.reduceLT, Int.reduceLE, Int.reduceNeg, Int.reduceAdd, Int.reduceMul, Int.reduceSub, Int.reduceEq, Nat.reduceEqDiff, Nat.zero_add, id, s__law_is_term, b__law_is_term, mFor_eq ei, q, h, te, l1, l2, l1', l2']
      · have l2' : ¬ (ds.length : Int) ≤ 400 := by omega
        simp -implicitDefEqProofs only [kR_r1, kR_r2, kR_r3d, intsD, mFor_ap, kForS_ap, addF_ii, addF_tt, addF_ll, addF_ss, mulF_ii, mulF_tt, mulF_ll, subF_ii, ltF_ii, leF_ii, gtF_ii, geF_ii, modF_ii, divF_ii, powF_ii, cutD_lo, cutD_hi, cutD_mid, cutD_m1, mYes_ap, truD, isi_set_int, isi_set_bool, isi_set_tuple, isi_set_list, isi_set_str, isi_set_dict, mLc_ap, allF_f, anyF_f, isi_non_int, isi_bl_int, isi_int_int, isi_str_int, isi_tup_int, isi_lst_int, isi_dK_int, isi_dT_int, isi_non_bool, isi_bl_bool, isi_int_bool, isi_str_bool, isi_tup_bool, isi_lst_bool, isi_dK_bool, isi_dT_bool, isi_non_tuple, isi_bl_tuple, isi_int_tuple, isi_str_tuple, isi_tup_tuple, isi_lst_tuple, isi_dK_tuple, isi_dT_tuple, isi_non_list, isi_bl_list, isi_int_list, isi_str_list, isi_tup_list, isi_lst_list, isi_dK_list, isi_dT_list, isi_non_str, isi_bl_str, isi_int_str, isi_str_str, isi_tup_str, isi_lst_str, isi_dK_str, isi_dT_str, isi_non_dict, isi_bl_dict, isi_int_dict, isi_str_dict, isi_tup_dict, isi_lst_dict, isi_dK_dict, isi_dT_dict, eqF_int, neF_int, eqF_bl, neF_bl, eqF_T, neF_T, eqF_Tm, neF_Tm, bndR_ok, bndR_none, bnd_ap, ret_ap, stuck_ap, mVar_ap, kVar_fz, kVar_ow, kVar_io, mC_ap, content_val, content_new, content_bor, slD_fz, slD_ow, slD_io, rv_f, rv_t, val_eq, new_eq, kRz_some, kRz_none, kP1_some, prim1_ap, kP2_some, prim2_ap, mBin_ap, kBin_ap, kBin2_ap, mUn_ap, kUn_ap, mTest_ap, kTest_ap, mTruth_ap, kTruth_ap, kTru_some, mNotT_ap, kNot_ap, mAndT_ap, mOrT_ap, kAnd_t, kAnd_f, kOr_t, kOr_f, mIf_ap, mIte_ap, kIf_t, kIf_f, mAndV_ap, mOrV_ap, kAndV_t, kAndV_f, kOrV_t, kOrV_f, mChain_ap, kCh1_ap, kCh2_ap, kCh3_ap, kLink_t, kLink_f, mChain3_ap, kC31_ap, kC32_ap, settle_val, settle_new, settle_bor, kSl_fz, kSl_ow, kOk_some, mD_ap, kD_ap, mCons_ap, kCons1_ap, kCons2_ap, mNil_ap, mStar_ap, kStar_ap, kStar1_some, kStar2_ap, mTup_ap, mLst_ap, kTup_ok, kLst_ok, mDict0_ap, mNoPart_ap, mPart_ap, kPart_ap, mSl_ap, kS1_ap, kS2_ap, kS3_ap, kS4_some, mRNil_ap, mRCons_ap, kR1_ap, kR2_ap, contents_nil, contents_cons, kCts_some, mCallB_ap, kCB_ap, kCB1_some, mArg_ap, kArg_f, kArg_val, kArg_new, kArg_bor, kArB_ow, kArB_io, mANil_ap, mACons_ap, kA1_ap, kA2_ap, mCall_ap, kCall_ap, kCall1_some, kFin_ok, owned_ow, owned_io, owned_fz, slsOf_nil, slsOf_pl, slsOf_tp, slsOf_ob, kOb_some, back_nil, back_pl, back_tp, back_ob, obs_nil, obs_pl, obs_tp, obs_ob, tps_nil, tps_pl, tps_tp, tps_ob, setOwn_ap, kSO_ow, kSO_io, mMut_ap, kMut0_some, kMut_some, mHas_ap, kHas_lst, mAppend_ap, kApp_ap, mPop_ap, mExtend_ap, kExt_ap, kExt1_some, appF_ok, extF_ok, popF_snoc, mSeq_ap, kSeq_nx, kSeq_rt, kSeq_bk, kSeq_ct, mSkip_ap, mBrk_ap, mCnt_ap, mExpr_ap, kDrop_ap, mRet_ap, kRet_val, kRet_new, kRet_bor, kRetB_fz, kRetB_ow, mRetN_ap, kNx_some, mSet_ap, kSet_ap, setSl_ap, kSS_no, kSS_fz, kSS_ow, kSS_pl, z1, z2, z3, z4, z5, z6, z7, z8, z9, z10, z11, z12, z13, z14, z15, z16, z17, z18, z19, z20, ixF_lst0, ixF_lst1, ixF_lst2, ixF_lst3, ixF_lstm, ixF_tup0, ixF_tup1, ixF_tup2, ixF_tup3, ixF_tupm, ixF_rol0, ixF_rol1, ixF_rol2, ixF_rol3, ixF_rolm, setF_0, setF_1, setF_2, setF_3, putRv_val, putRv_new, putRv_bor, noIo_no, noIo_fz, noIo_ow, mAsg_ap, kAsg_ap, gNm_ap, gTp_ap, gsNil_ap, gsCons_ap, mSt_ap, kSt_val, kSt_new, kSt_bor, mPNil_ap, mPCons_ap, kPC1_ap, mPar_ap, kPar_ap, putN_nil, putN_cons, mAug_ap, kAug_fz, kAug1_ap, mSetIx_ap, kIx_ap, kIx1_some, kIx2_ap, kIx3_some, kIx5_some, kIx4_some, setF_ok, mTurn_ap, kTurn_nx, kTurn_ct, kTurn_bk, kTurn_rt, kWh_t, kWh_f, forF_nil, kFor_some, semFn_ap, kFn_rt, kFn_nx, plain_fz, plain_io, mItems_ap, kIt_val, kIt_new, kIt_bor, kItB_fz, kItB_ow, kItB_io, kSrc_some, items_tup, items_lst, items_rol, mRng_ap, kRn_ap, kR_some, plainArg, val, new, negF, notF, lenF, absF, intF, boolF, max2F, min2F, tupleF, listF, fI, fI0, slF, isL, Rz.rv, eq_self, List.getElem?_cons_succ, List.getElem?_cons_zero, List.set_cons_succ, List.set_cons_zero, Option.map_some, Option.map_none, Option.bind_some, decide_true, decide_false, decide_not, Bool.not_true, Bool.not_false, Bool.true_and, Bool.and_true, Bool.false_and, Bool.and_false, Bool.true_or, Bool.or_true, Bool.false_or, Bool.or_false, List.nil_append, List.cons_append, List.append_nil, List.length_cons, List.length_nil, List.length_append, List.length_map, List.replicate_succ, List.replicate_zero, List.all_cons, List.all_nil, if_true, if_false, ite_true, ite_false, Nat.sub_self, Nat.reduceAdd, Nat.reduceSub, Nat.reduceLeDiff, Nat.reduceLT, List.take_succ_cons, List.take_zero, true_and, and_true, not_true, not_false_eq_true, and_self, List.nodup_nil, List.nodup_cons, List.mem_cons, List.not_mem_nil, or_false, false_or, List.map_cons, List.map_nil, List.map_append, Bool.decide_eq_true, Nat.zero_le, Bool.cond_true, Bool.cond_false, ↓reduceIte, reduceCtorEq, Int.reduceLT, Int.reduceLE, Int.reduceNeg, Int.reduceAdd, Int.reduceMul, Int.reduceSub, Int.reduceEq, Nat.reduceEqDiff, Nat.zero_add, id, s__law_is_term, b__law_is_term, te, l1, l2, l1', l2']
    · have l1' : ¬ (1 : Int) ≤ (ds.length : Int) := by omega
      simp -implicitDefEqProofs only [kR_r1, kR_r2, kR_r3d, intsD, mFor_ap, kForS_ap, addF_ii, addF_tt, addF_ll, addF_ss, mulF_ii, mulF_tt, mulF_ll, subF_ii, ltF_ii, leF_ii, gtF_ii, geF_ii, modF_ii, divF_ii, powF_ii, cutD_lo, cutD_hi, cutD_mid, cutD_m1, mYes_ap, truD, isi_set_int, isi_set_bool, isi_set_tuple, isi_set_list, isi_set_str, isi_set_dict, mLc_ap, allF_f, anyF_f, isi_non_int, isi_bl_int, isi_int_int, isi_str_int, isi_tup_int, isi_lst_int, isi_dK_int, isi_dT_int, isi_non_bool, isi_bl_bool, isi_int_bool, isi_str_bool, isi_tup_bool, isi_lst_bool, isi_dK_bool, isi_dT_bool, isi_non_tuple, isi_bl_tuple, isi_int_tuple, isi_str_tuple, isi_tup_tuple, isi_lst_tuple, isi_dK_tuple, isi_dT_tuple, isi_non_list, isi_bl_list, isi_int_list, isi_str_list, isi_tup_list, isi_lst_list, isi_dK_list, isi_dT_list, isi_non_str, isi_bl_str, isi_int_str, isi_str_str, isi_tup_str, isi_lst_str, isi_dK_str, isi_dT_str, isi_non_dict, isi_bl_dict, isi_int_dict, isi_str_dict, isi_tup_dict, isi_lst_dict, isi_dK_dict, isi_dT_dict, eqF_int, neF_int, eqF_bl, neF_bl, eqF_T, neF_T, eqF_Tm, neF_Tm, bndR_ok, bndR_none, bnd_ap, ret_ap, stuck_ap, mVar_ap, kVar_fz, kVar_ow, kVar_io, mC_ap, content_val, content_new, content_bor, slD_fz, slD_ow, slD_io, rv_f, rv_t, val_eq, new_eq, kRz_some, kRz_none, kP1_some, prim1_ap, kP2_some, prim2_ap, mBin_ap, kBin_ap, kBin2_ap, mUn_ap, kUn_ap, mTest_ap, kTest_ap, mTruth_ap, kTruth_ap, kTru_some, mNotT_ap, kNot_ap, mAndT_ap, mOrT_ap, kAnd_t, kAnd_f, kOr_t, kOr_f, mIf_ap, mIte_ap, kIf_t, kIf_f, mAndV_ap, mOrV_ap, kAndV_t, kAndV_f, kOrV_t, kOrV_f, mChain_ap, kCh1_ap, kCh2_ap, kCh3_ap, kLink_t, kLink_f, mChain3_ap, kC31_ap, kC32_ap, settle_val, settle_new, settle_bor, kSl_fz, kSl_ow, kOk_some, mD_ap, kD_ap, mCons_ap, kCons1_ap, kCons2_ap, mNil_ap, mStar_ap, kStar_ap, kStar1_some, kStar2_ap, mTup_ap, mLst_ap, kTup_ok, kLst_ok, mDict0_ap, mNoPart_ap, mPart_ap, kPart_ap, mSl_ap, kS1_ap, kS2_ap, kS3_ap, kS4_some, mRNil_ap, mRCons_ap, kR1_ap, kR2_ap, contents_nil, contents_cons, kCts_some, mCallB_ap, kCB_ap, kCB1_some, mArg_ap, kArg_f, kArg_val, kArg_new, kArg_bor, kArB_ow, kArB_io, mANil_ap, mACons_ap, kA1_ap, kA2_ap, mCall_ap, kCall_ap, kCall1_some, kFin_ok, owned_ow, owned_io, owned_fz, slsOf_nil, slsOf_pl, slsOf_tp, slsOf_ob, kOb_some, back_nil, back_pl, back_tp, back_ob, obs_nil, obs_pl, obs_tp, obs_ob, tps_nil, tps_pl, tps_tp, tps_ob, setOwn_ap, kSO_ow, kSO_io, mMut_ap, kMut0_some, kMut_some, mHas_ap, kHas_lst, mAppend_ap, kApp_ap, mPop_ap, mExtend_ap, kExt_ap, kExt1_some, appF_ok, extF_ok, popF_snoc, mSeq_ap, kSeq_nx, kSeq_rt, kSeq_bk, kSeq_ct, mSkip_ap, mBrk_ap, mCnt_ap, mExpr_ap, kDrop_ap, mRet_ap, kRet_val, kRet_new, kRet_bor, kRetB_fz, kRetB_ow, mRetN_ap, kNx_some, mSet_ap, kSet_ap, setSl_ap, kSS_no, kSS_fz, kSS_ow, kSS_pl, z1, z2, z3, z4, z5, z6, z7, z8, z9, z10, z11, z12, z13, z14, z15, z16, z17, z18, z19, z20, ixF_lst0, ixF_lst1, ixF_lst2, ixF_lst3, ixF_lstm, ixF_tup0, ixF_tup1, ixF_tup2, ixF_tup3, ixF_tupm, ixF_rol0, ixF_rol1, ixF_rol2, ixF_rol3, ixF_rolm, setF_0, setF_1, setF_2, setF_3, putRv_val, putRv_new, putRv_bor, noIo_no, noIo_fz, noIo_ow, mAsg_ap, kAsg_ap, gNm_ap, gTp_ap, gsNil_ap, gsCons_ap, mSt_ap, kSt_val, kSt_new, kSt_bor, mPNil_ap, mPCons_ap, kPC1_ap, mPar_ap, kPar_ap, putN_nil, putN_cons, mAug_ap, kAug_fz, kAug1_ap, mSetIx_ap, kIx_ap, kIx1_some, kIx2_ap, kIx3_some, kIx5_some, kIx4_some, setF_ok, mTurn_ap, kTurn_nx, kTurn_ct, kTurn_bk, kTurn_rt, kWh_t, kWh_f, forF_nil, kFor_some, semFn_ap, kFn_rt, kFn_nx, plain_fz, plain_io, mItems_ap, kIt_val, kIt_new, kIt_bor, kItB_fz, kItB_ow, kItB_io, kSrc_some, items_tup, items_lst, items_rol, mRng_ap, kRn_ap, kR_some, plainArg, val, new, negF, notF, lenF, absF, intF, boolF, max2F, min2F, tupleF, listF, fI, fI0, slF, isL, Rz.rv, eq_self, List.getElem?_cons_succ, List.getElem?_cons_zero, List.set_cons_succ, List.set_cons_zero, Option.map_some, Option.map_none, Option.bind_some, decide_true, decide_false, decide_not, Bool.not_true, Bool.not_false, Bool.true_and, Bool.and_true, Bool.false_and, Bool.and_false, Bool.true_or, Bool.or_true, Bool.false_or, Bool.or_false, List.nil_append, List.cons_append, List.append_nil, List.length_cons, List.length_nil, List.length_append, List.length_map, List.replicate_succ, List.replicate_zero, List.all_cons, List.all_nil, if_true, if_false, ite_true, ite_false, Nat.sub_self, Nat.reduceAdd, Nat.reduceSub, Nat.reduceLeDiff, Nat.reduceLT, List.take_succ_cons, List.take_zero, true_and, and_true, not_true, not_false_eq_true, and_self, List.nodup_nil, List.nodup_cons, List.mem_cons, List.not_mem_nil, or_false, false_or, List.map_cons, List.map_nil, List.map_append, Bool.decide_eq_true, Nat.zero_le, Bool.cond_true, Bool.cond_false, ↓reduceIte, reduceCtorEq, Int.reduceLT, Int.reduceLE, Int.reduceNeg, Int.reduceAdd, Int.reduceMul, Int.reduceSub, Int.reduceEq, Nat.reduceEqDiff, Nat.zero_add, id, s__law_is_term, b__law_is_term, te, l1, l1']
  | _ => simp -implicitDefEqProofs only [kR_r1, kR_r2, kR_r3d, intsD, mFor_ap, kForS_ap, addF_ii, addF_tt, addF_ll, addF_ss, mulF_ii, mulF_tt, mulF_ll, subF_ii, ltF_ii, leF_ii, gtF_ii, geF_ii, modF_ii, divF_ii, powF_ii, cutD_lo, cutD_hi, cutD_mid, cutD_m1, mYes_ap, truD, isi_set_int, isi_set_bool, isi_set_tuple, isi_set_list, isi_set_str, isi_set_dict, mLc_ap, allF_f, anyF_f, isi_non_int, isi_bl_int, isi_int_int, isi_str_int, isi_tup_int, isi_lst_int, isi_dK_int, isi_dT_int, isi_non_bool, isi_bl_bool, isi_int_bool, isi_str_bool, isi_tup_bool, isi_lst_bool, isi_dK_bool, isi_dT_bool, isi_non_tuple, isi_bl_tuple, isi_int_tuple, isi_str_tuple, isi_tup_tuple, isi_lst_tuple, isi_dK_tuple, isi_dT_tuple, isi_non_list, isi_bl_list, isi_int_list, isi_str_list, isi_tup_list, isi_lst_list, isi_dK_list, isi_dT_list, isi_non_str, isi_bl_str, isi_int_str, isi_str_str, isi_tup_str, isi_lst_str, isi_dK_str, isi_dT_str, isi_non_dict, isi_bl_dict, isi_int_dict, isi_str_dict, isi_tup_dict, isi_lst_dict, isi_dK_dict, isi_dT_dict, eqF_int, neF_int, eqF_bl, neF_bl, eqF_T, neF_T, eqF_Tm, neF_Tm, bndR_ok, bndR_none, bnd_ap, ret_ap, stuck_ap, mVar_ap, kVar_fz, kVar_ow, kVar_io, mC_ap, content_val, content_new, content_bor, slD_fz, slD_ow, slD_io, rv_f, rv_t, val_eq, new_eq, kRz_some, kRz_none, kP1_some, prim1_ap, kP2_some, prim2_ap, mBin_ap, kBin_ap, kBin2_ap, mUn_ap, kUn_ap, mTest_ap, kTest_ap, mTruth_ap, kTruth_ap, kTru_some, mNotT_ap, kNot_ap, mAndT_ap, mOrT_ap, kAnd_t, kAnd_f, kOr_t, kOr_f, mIf_ap, mIte_ap, kIf_t, kIf_f, mAndV_ap, mOrV_ap, kAndV_t, kAndV_f, kOrV_t, kOrV_f, mChain_ap, kCh1_ap, kCh2_ap, kCh3_ap, kLink_t, kLink_f, mChain3_ap, kC31_ap, kC32_ap, settle_val, settle_new, settle_bor, kSl_fz, kSl_ow, kOk_some, mD_ap, kD_ap, mCons_ap, kCons1_ap, kCons2_ap, mNil_ap, mStar_ap, kStar_ap, kStar1_some, kStar2_ap, mTup_ap, mLst_ap, kTup_ok, kLst_ok, mDict0_ap, mNoPart_ap, mPart_ap, kPart_ap, mSl_ap, kS1_ap, kS2_ap, kS3_ap, kS4_some, mRNil_ap, mRCons_ap, kR1_ap, kR2_ap, contents_nil, contents_cons, kCts_some, mCallB_ap, kCB_ap, kCB1_some, mArg_ap, kArg_f, kArg_val, kArg_new, kArg_bor, kArB_ow, kArB_io, mANil_ap, mACons_ap, kA1_ap, kA2_ap, mCall_ap, kCall_ap, kCall1_some, kFin_ok, owned_ow, owned_io, owned_fz, slsOf_nil, slsOf_pl, slsOf_tp, slsOf_ob, kOb_some, back_nil, back_pl, back_tp, back_ob, obs_nil, obs_pl, obs_tp, obs_ob, tps_nil, tps_pl, tps_tp, tps_ob, setOwn_ap, kSO_ow, kSO_io, mMut_ap, kMut0_some, kMut_some, mHas_ap, kHas_lst, mAppend_ap, kApp_ap, mPop_ap, mExtend_ap, kExt_ap, kExt1_some, appF_ok, extF_ok, popF_snoc, mSeq_ap, kSeq_nx, kSeq_rt, kSeq_bk, kSeq_ct, mSkip_ap, mBrk_ap, mCnt_ap, mExpr_ap, kDrop_ap, mRet_ap, kRet_val, kRet_new, kRet_bor, kRetB_fz, kRetB_ow, mRetN_ap, kNx_some, mSet_ap, kSet_ap, setSl_ap, kSS_no, kSS_fz, kSS_ow, kSS_pl, z1, z2, z3, z4, z5, z6, z7, z8, z9, z10, z11, z12, z13, z14, z15, z16, z17, z18, z19, z20, ixF_lst0, ixF_lst1, ixF_lst2, ixF_lst3, ixF_lstm, ixF_tup0, ixF_tup1, ixF_tup2, ixF_tup3, ixF_tupm, ixF_rol0, ixF_rol1, ixF_rol2, ixF_rol3, ixF_rolm, setF_0, setF_1, setF_2, setF_3, putRv_val, putRv_new, putRv_bor, noIo_no, noIo_fz, noIo_ow, mAsg_ap, kAsg_ap, gNm_ap, gTp_ap, gsNil_ap, gsCons_ap, mSt_ap, kSt_val, kSt_new, kSt_bor, mPNil_ap, mPCons_ap, kPC1_ap, mPar_ap, kPar_ap, putN_nil, putN_cons, mAug_ap, kAug_fz, kAug1_ap, mSetIx_ap, kIx_ap, kIx1_some, kIx2_ap, kIx3_some, kIx5_some, kIx4_some, setF_ok, mTurn_ap, kTurn_nx, kTurn_ct, kTurn_bk, kTurn_rt, kWh_t, kWh_f, forF_nil, kFor_some, semFn_ap, kFn_rt, kFn_nx, plain_fz, plain_io, mItems_ap, kIt_val, kIt_new, kIt_bor, kItB_fz, kItB_ow, kItB_io, kSrc_some, items_tup, items_lst, items_rol, mRng_ap, kRn_ap, kR_some, plainArg, val, new, negF, notF, lenF, absF, intF, boolF, max2F, min2F, tupleF, listF, fI, fI0, slF, isL, Rz.rv, eq_self, List.getElem?_cons_succ, List.getElem?_cons_zero, List.set_cons_succ, List.set_cons_zero, Option.map_some, Option.map_none, Option.bind_some, decide_true, decide_false, decide_not, Bool.not_true, Bool.not_false, Bool.true_and, Bool.and_true, Bool.false_and, Bool.and_false, Bool.true_or, Bool.or_true, Bool.false_or, Bool.or_false, List.nil_append, List.cons_append, List.append_nil, List.length_cons, List.length_nil, List.length_append, List.length_map, List.replicate_succ, List.replicate_zero, List.all_cons, List.all_nil, if_true, if_false, ite_true, ite_false, Nat.sub_self, Nat.reduceAdd, Nat.reduceSub, Nat.reduceLeDiff, Nat.reduceLT, List.take_succ_cons, List.take_zero, true_and, and_true, not_true, not_false_eq_true, and_self, List.nodup_nil, List.nodup_cons, List.mem_cons, List.not_mem_nil, or_false, false_or, List.map_cons, List.map_nil, List.map_append, Bool.decide_eq_true, Nat.zero_le, Bool.cond_true, Bool.cond_false, ↓reduceIte, reduceCtorEq, Int.reduceLT, Int.reduceLE, Int.reduceNeg, Int.reduceAdd, Int.reduceMul, Int.reduceSub, Int.reduceEq, Nat.reduceEqDiff, Nat.zero_add, id, s__law_is_term, b__law_is_term, isT]
end PL

namespace PL
open PySem L2
theorem ixT {t : List Int} {p : Nat} (h : p < t.length) : ixF (.tup (t.map .int)) (.int p) = val (.int t[p]) := by
  have := ixF_tup (ds := t.map .int) (k := p) (by omega) (by simpa using h)
  simpa using this
theorem ixL {t : List Int} {p : Nat} (h : p < t.length) : ixF (.lst (t.map .int)) (.int p) = val (.int t[p]) := by
  have := ixF_lst (ds := t.map .int) (k := p) (by omega) (by simpa using h)
  simpa using this
theorem setF_nat {ds : List D} {q : Nat} {y : D} (h : q < ds.length) : setF y (.int q) (.lst ds) = some (.non, .lst (ds.set q y)) := by
  simp only [setF, L2.ixN]
  rw [if_pos (by omega), if_pos (by omega)]
  rfl
theorem end_loop {t : List Int} {p : D} : ∀ (n k : Nat) (i : Int) (here : Nat) (h : Int) (s4 : Sl), cut k (t.drop here) = some n → i = k → h = here → isPl s4 = true →
    ∃ s4', mWhile c_part_end_in_1 w_part_end_in_1 [.fz (.tup (t.map .int)), .fz p, .fz (.int i), .fz (.int h), s4] = some (.ok .nx [.fz (.tup (t.map .int)), .fz p, .fz (.int 0), .fz (.int (here + n : Nat)), s4'])
  | n, 0, i, here, h, s4, hc, e, e2, hp => by
    have n4 := noIo_pl hp
    simp only [cut, Option.some.injEq] at hc
    subst hc
    refine ⟨s4, ?_⟩
    have i0 : i = 0 := by omega
    subst i0 e2
    have z : ¬ (0 : Int) < 0 := by omega
    rw [mWhile_ap]
    simp -implicitDefEqProofs only [kR_r1, kR_r2, kR_r3d, intsD, mFor_ap, kForS_ap, addF_ii, addF_tt, addF_ll, addF_ss, mulF_ii, mulF_tt, mulF_ll, subF_ii, ltF_ii, leF_ii, gtF_ii, geF_ii, modF_ii, divF_ii, powF_ii, cutD_lo, cutD_hi, cutD_mid, cutD_m1, mYes_ap, truD, isi_set_int, isi_set_bool, isi_set_tuple, isi_set_list, isi_set_str, isi_set_dict, mLc_ap, allF_f, anyF_f, isi_non_int, isi_bl_int, isi_int_int, isi_str_int, isi_tup_int, isi_lst_int, isi_dK_int, isi_dT_int, isi_non_bool, isi_bl_bool, isi_int_bool, isi_str_bool, isi_tup_bool, isi_lst_bool, isi_dK_bool, isi_dT_bool, isi_non_tuple, isi_bl_tuple, isi_int_tuple, isi_str_tuple, isi_tup_tuple, isi_lst_tuple, isi_dK_tuple, isi_dT_tuple, isi_non_list, isi_bl_list, isi_int_list, isi_str_list, isi_tup_list, isi_lst_list, isi_dK_list, isi_dT_list, isi_non_str, isi_bl_str, isi_int_str, isi_str_str, isi_tup_str, isi_lst_str, isi_dK_str, isi_dT_str, isi_non_dict, isi_bl_dict, isi_int_dict, isi_str_dict, isi_tup_dict, isi_lst_dict, isi_dK_dict, isi_dT_dict, eqF_int, neF_int, eqF_bl, neF_bl, eqF_T, neF_T, eqF_Tm, neF_Tm, bndR_ok, bndR_none, bnd_ap, ret_ap, stuck_ap, mVar_ap, kVar_fz, kVar_ow, kVar_io, mC_ap, content_val, content_new, content_bor, slD_fz, slD_ow, slD_io, rv_f, rv_t, val_eq, new_eq, kRz_some, kRz_none, kP1_some, prim1_ap, kP2_some, prim2_ap, mBin_ap, kBin_ap, kBin2_ap, mUn_ap, kUn_ap, mTest_ap, kTest_ap, mTruth_ap, kTruth_ap, kTru_some, mNotT_ap, kNot_ap, mAndT_ap, mOrT_ap, kAnd_t, kAnd_f, kOr_t, kOr_f, mIf_ap, mIte_ap, kIf_t, kIf_f, mAndV_ap, mOrV_ap, kAndV_t, kAndV_f, kOrV_t, kOrV_f, mChain_ap, kCh1_ap, kCh2_ap, kCh3_ap, kLink_t, kLink_f, mChain3_ap, kC31_ap, kC32_ap, settle_val, settle_new, settle_bor, kSl_fz, kSl_ow, kOk_some, mD_ap, kD_ap, mCons_ap, kCons1_ap, kCons2_ap, mNil_ap, mStar_ap, kStar_ap, kStar1_some, kStar2_ap, mTup_ap, mLst_ap, kTup_ok, kLst_ok, mDict0_ap, mNoPart_ap, mPart_ap, kPart_ap, mSl_ap, kS1_ap, kS2_ap, kS3_ap, kS4_some, mRNil_ap, mRCons_ap, kR1_ap, kR2_ap, contents_nil, contents_cons, kCts_some, mCallB_ap, kCB_ap, kCB1_some, mArg_ap, kArg_f, kArg_val, kArg_new, kArg_bor, kArB_ow, kArB_io, mANil_ap, mACons_ap, kA1_ap, kA2_ap, mCall_ap, kCall_ap, kCall1_some, kFin_ok, owned_ow, owned_io, owned_fz, slsOf_nil, slsOf_pl, slsOf_tp, slsOf_ob, kOb_some, back_nil, back_pl, back_tp, back_ob, obs_nil, obs_pl, obs_tp, obs_ob, tps_nil, tps_pl, tps_tp, tps_ob, setOwn_ap, kSO_ow, kSO_io, mMut_ap, kMut0_some, kMut_some, mHas_ap, kHas_lst, mAppend_ap, kApp_ap, mPop_ap, mExtend_ap, kExt_ap, kExt1_some, appF_ok, extF_ok, popF_snoc, mSeq_ap, kSeq_nx, kSeq_rt, kSeq_bk, kSeq_ct, mSkip_ap, mBrk_ap, mCnt_ap, mExpr_ap, kDrop_ap, mRet_ap, kRet_val, kRet_new, kRet_bor, kRetB_fz, kRetB_ow, mRetN_ap, kNx_some, mSet_ap, kSet_ap, setSl_ap, kSS_no, kSS_fz, kSS_ow, kSS_pl, z1, z2, z3, z4, z5, z6, z7, z8, z9, z10, z11, z12, z13, z14, z15, z16, z17, z18, z19, z20, ixF_lst0, ixF_lst1, ixF_lst2, ixF_lst3, ixF_lstm, ixF_tup0, ixF_tup1, ixF_tup2, ixF_tup3, ixF_tupm, ixF_rol0, ixF_rol1, ixF_rol2, ixF_rol3, ixF_rolm, setF_0, setF_1, setF_2, setF_3, putRv_val, putRv_new, putRv_bor, noIo_no, noIo_fz, noIo_ow, mAsg_ap, kAsg_ap, gNm_ap, gTp_ap, gsNil_ap, gsCons_ap, mSt_ap, kSt_val, kSt_new, kSt_bor, mPNil_ap, mPCons_ap, kPC1_ap, mPar_ap, kPar_ap, putN_nil, putN_cons, mAug_ap, kAug_fz, kAug1_ap, mSetIx_ap, kIx_ap, kIx1_some, kIx2_ap, kIx3_some, kIx5_some, kIx4_some, setF_ok, mTurn_ap, kTurn_nx, kTurn_ct, kTurn_bk, kTurn_rt, kWh_t, kWh_f, forF_nil, kFor_some, semFn_ap, kFn_rt, kFn_nx, plain_fz, plain_io, mItems_ap, kIt_val, kIt_new, kIt_bor, kItB_fz, kItB_ow, kItB_io, kSrc_some, items_tup, items_lst, items_rol, mRng_ap, kRn_ap, kR_some, plainArg, val, new, negF, notF, lenF, absF, intF, boolF, max2F, min2F, tupleF, listF, fI, fI0, slF, isL, Rz.rv, eq_self, List.getElem?_cons_succ, List.getElem?_cons_zero, List.set_cons_succ, List.set_cons_zero, Option.map_some, Option.map_none, Option.bind_some, decide_true, decide_false, decide_not, Bool.not_true, Bool.not_false, Bool.true_and, Bool.and_true, Bool.false_and, Bool.and_false, Bool.true_or, Bool.or_true, Bool.false_or, Bool.or_false, List.nil_append, List.cons_append, List.append_nil, List.length_cons, List.length_nil, List.length_append, List.length_map, List.replicate_succ, List.replicate_zero, List.all_cons, List.all_nil, if_true, if_false, ite_true, ite_false, Nat.sub_self, Nat.reduceAdd, Nat.reduceSub, Nat.reduceLeDiff, Nat.reduceLT, List.take_succ_cons, List.take_zero, true_and, and_true, not_true, not_false_eq_true, and_self, List.nodup_nil, List.nodup_cons, List.mem_cons, List.not_mem_nil, or_false, false_or, List.map_cons, List.map_nil, List.map_append, Bool.decide_eq_true, Nat.zero_le, Bool.cond_true, Bool.cond_false, ↓reduceIte, reduceCtorEq, Int.reduceLT, Int.reduceLE, Int.reduceNeg, Int.reduceAdd, Int.reduceMul, Int.reduceSub, Int.reduceEq, Nat.reduceEqDiff, Nat.zero_add, id, c_part_end_in_1_ap, w_part_end_in_1_ap, z, Nat.add_zero]
  | 0, k + 1, i, here, h, s4, hc, e, e2, hp => by
    have := cut_pos hc
    omega
  | n + 1, k + 1, i, here, h, s4, hc, e, e2, hp => by
    have n4 := noIo_pl hp
    have hl : here < t.length := by
      have := cut_le _ _ _ hc
      simp at this
      omega
    rw [drop_one hl] at hc
    simp only [cut, Option.map_eq_some_iff] at hc
    obtain ⟨m, hm, em⟩ := hc
    have em : m = n := by omega
    subst em
    have ix := ixT hl
    rw [← e2] at ix
    have i0 : 0 < i := by omega
    by_cases c0 : t[here] = 0
    · rw [if_pos c0] at hm
      obtain ⟨s, ih⟩ := end_loop (p := p) m (k + 2) (i + 1 - 0) (here + 1) (h + 1) (.fz (.int 0)) hm (by omega) (by omega) rfl
      refine ⟨s, ?_⟩
      rw [mWhile_ap]
      have z : ¬ (0 : Int) < 0 := by omega
      simp -implicitDefEqProofs only [kR_r1, kR_r2, kR_r3d, intsD, mFor_ap, kForS_ap, addF_ii, addF_tt, addF_ll, addF_ss, mulF_ii, mulF_tt, mulF_ll, subF_ii, ltF_ii, leF_ii, gtF_ii, geF_ii, modF_ii, divF_ii, powF_ii, cutD_lo, cutD_hi, cutD_mid, cutD_m1, mYes_ap, truD, isi_set_int, isi_set_bool, isi_set_tuple, isi_set_list, isi_set_str, isi_set_dict, mLc_ap, allF_f, anyF_f, isi_non_int, isi_bl_int, isi_int_int, isi_str_int, isi_tup_int, isi_lst_int, isi_dK_int, isi_dT_int, isi_non_bool, isi_bl_bool, isi_int_bool, isi_str_bool, isi_tup_bool, isi_lst_bool, isi_dK_bool, isi_dT_bool, isi_non_tuple, isi_bl_tuple, isi_int_tuple, isi_str_tuple, isi_tup_tuple, isi_lst_tuple, isi_dK_tuple, isi_dT_tuple, isi_non_list, isi_bl_list, isi_int_list, isi_str_list, isi_tup_list, isi_lst_list, isi_dK_list, isi_dT_list, isi_non_str, isi_bl_str, isi_int_str, isi_str_str, isi_tup_str, isi_lst_str, isi_dK_str, isi_dT_str, isi_non_dict, isi_bl_dict, isi_int_dict, isi_str_dict, isi_tup_dict, isi_lst_dict, isi_dK_dict, isi_dT_dict, eqF_int, neF_int, eqF_bl, neF_bl, eqF_T, neF_T, eqF_Tm, neF_Tm, bndR_ok, bndR_none, bnd_ap, ret_ap, stuck_ap, mVar_ap, kVar_fz, kVar_ow, kVar_io, mC_ap, content_val, content_new, content_bor, slD_fz, slD_ow, slD_io, rv_f, rv_t, val_eq, new_eq, kRz_some, kRz_none, kP1_some, prim1_ap, kP2_some, prim2_ap, mBin_ap, kBin_ap, kBin2_ap, mUn_ap, kUn_ap, mTest_ap, kTest_ap, mTruth_ap, kTruth_ap, kTru_some, mNotT_ap, kNot_ap, mAndT_ap, mOrT_ap, kAnd_t, kAnd_f, kOr_t, kOr_f, mIf_ap, mIte_ap, kIf_t, kIf_f, mAndV_ap, mOrV_ap, kAndV_t, kAndV_f, kOrV_t, kOrV_f, mChain_ap, kCh1_ap, kCh2_ap, kCh3_ap, kLink_t, kLink_f, mChain3_ap, kC31_ap, kC32_ap, settle_val, settle_new, settle_bor, kSl_fz, kSl_ow, kOk_some, mD_ap, kD_ap, mCons_ap, kCons1_ap, kCons2_ap, mNil_ap, mStar_ap, kStar_ap, kStar1_some, kStar2_ap, mTup_ap, mLst_ap, kTup_ok, kLst_ok, mDict0_ap, mNoPart_ap, mPart_ap, kPart_ap, mSl_ap, kS1_ap, kS2_ap, kS3_ap, kS4_some, mRNil_ap, mRCons_ap, kR1_ap, kR2_ap, contents_nil, contents_cons, kCts_some, mCallB_ap, kCB_ap, kCB1_some, mArg_ap, kArg_f, kArg_val, kArg_new, kArg_bor, kArB_ow, kArB_io, mANil_ap, mACons_ap, kA1_ap, kA2_ap, mCall_ap, kCall_ap, kCall1_some, kFin_ok, owned_ow, owned_io, owned_fz, slsOf_nil, slsOf_pl, slsOf_tp, slsOf_ob, kOb_some, back_nil, back_pl, back_tp, back_ob, obs_nil, obs_pl, obs_tp, obs_ob, tps_nil, tps_pl, tps_tp, tps_ob, setOwn_ap, kSO_ow, kSO_io, mMut_ap, kMut0_some, kMut_some, mHas_ap, kHas_lst, mAppend_ap, kApp_ap, mPop_ap, mExtend_ap, kExt_ap, kExt1_some, appF_ok, extF_ok, popF_snoc, mSeq_ap, kSeq_nx, kSeq_rt, kSeq_bk, kSeq_ct, mSkip_ap, mBrk_ap, mCnt_ap, mExpr_ap, kDrop_ap, mRet_ap, kRet_val, kRet_new, kRet_bor, kRetB_fz, kRetB_ow, mRetN_ap, kNx_some, mSet_ap, kSet_ap, setSl_ap, kSS_no, kSS_fz, kSS_ow, kSS_pl, z1, z2, z3, z4, z5, z6, z7, z8, z9, z10, z11, z12, z13, z14, z15, z16, z17, z18, z19, z20, ixF_lst0, ixF_lst1, ixF_lst2, ixF_lst3, ixF_lstm, ixF_tup0, ixF_tup1, ixF_tup2, ixF_tup3, ixF_tupm, ixF_rol0, ixF_rol1, ixF_rol2, ixF_rol3, ixF_rolm, setF_0, setF_1, setF_2, setF_3, putRv_val, putRv_new, putRv_bor, noIo_no, noIo_fz, noIo_ow, mAsg_ap, kAsg_ap, gNm_ap, gTp_ap, gsNil_ap, gsCons_ap, mSt_ap, kSt_val, kSt_new, kSt_bor, mPNil_ap, mPCons_ap, kPC1_ap, mPar_ap, kPar_ap, putN_nil, putN_cons, mAug_ap, kAug_fz, kAug1_ap, mSetIx_ap, kIx_ap, kIx1_some, kIx2_ap, kIx3_some, kIx5_some, kIx4_some, setF_ok, mTurn_ap, kTurn_nx, kTurn_ct, kTurn_bk, kTurn_rt, kWh_t, kWh_f, forF_nil, kFor_some, semFn_ap, kFn_rt, kFn_nx, plain_fz, plain_io, mItems_ap, kIt_val, kIt_new, kIt_bor, kItB_fz, kItB_ow, kItB_io, kSrc_some, items_tup, items_lst, items_rol, mRng_ap, kRn_ap, kR_some, plainArg, val, new, negF, notF, lenF, absF, intF, boolF, max2F, min2F, tupleF, listF, fI, fI0, slF, isL, Rz.rv, eq_self, List.getElem?_cons_succ, List.getElem?_cons_zero, List.set_cons_succ, List.set_cons_zero, Option.map_some, Option.map_none, Option.bind_some, decide_true, decide_false, decide_not, Bool.not_true, Bool.not_false, Bool.true_and, Bool.and_true, Bool.false_and, Bool.and_false, Bool.true_or, Bool.or_true, Bool.false_or, Bool.or_false, List.nil_append, List.cons_append, List.append_nil, List.length_cons, List.length_nil, List.length_append, List.length_map, List.replicate_succ, List.replicate_zero, List.all_cons, List.all_nil, if_true, if_false, ite_true, ite_false, Nat.sub_self, Nat.reduceAdd, Nat.reduceSub, Nat.reduceLeDiff, Nat.reduceLT, List.take_succ_cons, List.take_zero, true_and, and_true, not_true, not_false_eq_true, and_self, List.nodup_nil, List.nodup_cons, List.mem_cons, List.not_mem_nil, or_false, false_or, List.map_cons, List.map_nil, List.map_append, Bool.decide_eq_true, Nat.zero_le, Bool.cond_true, Bool.cond_false, ↓reduceIte, reduceCtorEq, Int.reduceLT, Int.reduceLE, Int.reduceNeg, Int.reduceAdd, Int.reduceMul, Int.reduceSub, Int.reduceEq, Nat.reduceEqDiff, Nat.zero_add, id, c_part_end_in_1_ap, w_part_end_in_1_ap, i0, n4, ix, c0, z, ih, show here + (m + 1) = here + 1 + m by omega]
    · rw [if_neg c0] at hm
      by_cases c1 : 0 < t[here]
      · rw [if_pos c1] at hm
        obtain ⟨s, ih⟩ := end_loop (p := p) m k (i + 0 - 1) (here + 1) (h + 1) (.fz (.int t[here])) hm (by omega) (by omega) rfl
        refine ⟨s, ?_⟩
        rw [mWhile_ap]
        simp -implicitDefEqProofs only [kR_r1, kR_r2, kR_r3d, intsD, mFor_ap, kForS_ap, addF_ii, addF_tt, addF_ll, addF_ss, mulF_ii, mulF_tt, mulF_ll, subF_ii, ltF_ii, leF_ii, gtF_ii, geF_ii, modF_ii, divF_ii, powF_ii, cutD_lo, cutD_hi, cutD_mid, cutD_m1, mYes_ap, truD, isi_set_int, isi_set_bool, isi_set_tuple, isi_set_list, isi_set_str, isi_set_dict, mLc_ap, allF_f, anyF_f, isi_non_int, isi_bl_int, isi_int_int, isi_str_int, isi_tup_int, isi_lst_int, isi_dK_int, isi_dT_int, isi_non_bool, isi_bl_bool, isi_int_bool, isi_str_bool, isi_tup_bool, isi_lst_bool, isi_dK_bool, isi_dT_bool, isi_non_tuple, isi_bl_tuple, isi_int_tuple, isi_str_tuple, isi_tup_tuple, isi_lst_tuple, isi_dK_tuple, isi_dT_tuple, isi_non_list, isi_bl_list, isi_int_list, isi_str_list, isi_tup_list, isi_lst_list, isi_dK_list, isi_dT_list, isi_non_str, isi_bl_str, isi_int_str, isi_str_str, isi_tup_str, isi_lst_str, isi_dK_str, isi_dT_str, isi_non_dict, isi_bl_dict, isi_int_dict, isi_str_dict, isi_tup_dict, isi_lst_dict, isi_dK_dict, isi_dT_dict, eqF_int, neF_int, eqF_bl, neF_bl, eqF_T, neF_T, eqF_Tm, neF_Tm, bndR_ok, bndR_none, bnd_ap, ret_ap, stuck_ap, mVar_ap, kVar_fz, kVar_ow, kVar_io, mC_ap, content_val, content_new, content_bor, slD_fz, slD_ow, slD_io, rv_f, rv_t, val_eq, new_eq, kRz_some, kRz_none, kP1_some, prim1_ap, kP2_some, prim2_ap, mBin_ap, kBin_ap, kBin2_ap, mUn_ap, kUn_ap, mTest_ap, kTest_ap, mTruth_ap, kTruth_ap, kTru_some, mNotT_ap, kNot_ap, mAndT_ap, mOrT_ap, kAnd_t, kAnd_f, kOr_t, kOr_f, mIf_ap, mIte_ap, kIf_t, kIf_f, mAndV_ap, mOrV_ap, kAndV_t, kAndV_f, kOrV_t, kOrV_f, mChain_ap, kCh1_ap, kCh2_ap, kCh3_ap, kLink_t, kLink_f, mChain3_ap, kC31_ap, kC32_ap, settle_val, settle_new, settle_bor, kSl_fz, kSl_ow, kOk_some, mD_ap, kD_ap, mCons_ap, kCons1_ap, kCons2_ap, mNil_ap, mStar_ap, kStar_ap, kStar1_some, kStar2_ap, mTup_ap, mLst_ap, kTup_ok, kLst_ok, mDict0_ap, mNoPart_ap, mPart_ap, kPart_ap, mSl_ap, kS1_ap, kS2_ap, kS3_ap, kS4_some, mRNil_ap, mRCons_ap, kR1_ap, kR2_ap, contents_nil, contents_cons, kCts_some, mCallB_ap, kCB_ap, kCB1_some, mArg_ap, kArg_f, kArg_val, kArg_new, kArg_bor, kArB_ow, kArB_io, mANil_ap, mACons_ap, kA1_ap, kA2_ap, mCall_ap, kCall_ap, kCall1_some, kFin_ok, owned_ow, owned_io, owned_fz, slsOf_nil, slsOf_pl, slsOf_tp, slsOf_ob, kOb_some, back_nil, back_pl, back_tp, back_ob, obs_nil, obs_pl, obs_tp, obs_ob, tps_nil, tps_pl, tps_tp, tps_ob, setOwn_ap, kSO_ow, kSO_io, mMut_ap, kMut0_some, kMut_some, mHas_ap, kHas_lst, mAppend_ap, kApp_ap, mPop_ap, mExtend_ap, kExt_ap, kExt1_some, appF_ok, extF_ok, popF_snoc, mSeq_ap, kSeq_nx, kSeq_rt, kSeq_bk, kSeq_ct, mSkip_ap, mBrk_ap, mCnt_ap, mExpr_ap, kDrop_ap, mRet_ap, kRet_val, kRet_new, kRet_bor, kRetB_fz, kRetB_ow, mRetN_ap, kNx_some, mSet_ap, kSet_ap, setSl_ap, kSS_no, kSS_fz, kSS_ow, kSS_pl, z1, z2, z3, z4, z5, z6, z7, z8, z9, z10, z11, z12, z13, z14, z15, z16, z17, z18, z19, z20, ixF_lst0, ixF_lst1, ixF_lst2, ixF_lst3, ixF_lstm, ixF_tup0, ixF_tup1, ixF_tup2, ixF_tup3, ixF_tupm, ixF_rol0, ixF_rol1, ixF_rol2, ixF_rol3, ixF_rolm, setF_0, setF_1, setF_2, setF_3, putRv_val, putRv_new, putRv_bor, noIo_no, noIo_fz, noIo_ow, mAsg_ap, kAsg_ap, gNm_ap, gTp_ap, gsNil_ap, gsCons_ap, mSt_ap, kSt_val, kSt_new, kSt_bor, mPNil_ap, mPCons_ap, kPC1_ap, mPar_ap, kPar_ap, putN_nil, putN_cons, mAug_ap, kAug_fz, kAug1_ap, mSetIx_ap, kIx_ap, kIx1_some, kIx2_ap, kIx3_some, kIx5_some, kIx4_some, setF_ok, mTurn_ap, kTurn_nx, kTurn_ct, kTurn_bk, kTurn_rt, kWh_t, kWh_f, forF_nil, kFor_some, semFn_ap, kFn_rt, kFn_nx, plain_fz, plain_io, mItems_ap, kIt_val, kIt_new, kIt_bor, kItB_fz, kItB_ow, kItB_io, kSrc_some, items_tup, items_lst, items_rol, mRng_ap, kRn_ap, kR_some, plainArg, val, new, negF, notF, lenF, absF, intF, boolF, max2F, min2F, tupleF, listF, fI, fI0, slF, isL, Rz.rv, eq_self, List.getElem?_cons_succ, List.getElem?_cons_zero, List.set_cons_succ, List.set_cons_zero, Option.map_some, Option.map_none, Option.bind_some, decide_true, decide_false, decide_not, Bool.not_true, Bool.not_false, Bool.true_and, Bool.and_true, Bool.false_and, Bool.and_false, Bool.true_or, Bool.or_true, Bool.false_or, Bool.or_false, List.nil_append, List.cons_append, List.append_nil, List.length_cons, List.length_nil, List.length_append, List.length_map, List.replicate_succ, List.replicate_zero, List.all_cons, List.all_nil, if_true, if_false, ite_true, ite_false, Nat.sub_self, Nat.reduceAdd, Nat.reduceSub, Nat.reduceLeDiff, Nat.reduceLT, List.take_succ_cons, List.take_zero, true_and, and_true, not_true, not_false_eq_true, and_self, List.nodup_nil, List.nodup_cons, List.mem_cons, List.not_mem_nil, or_false, false_or, List.map_cons, List.map_nil, List.map_append, Bool.decide_eq_true, Nat.zero_le, Bool.cond_true, Bool.cond_false, ↓reduceIte, reduceCtorEq, Int.reduceLT, Int.reduceLE, Int.reduceNeg, Int.reduceAdd, Int.reduceMul, Int.reduceSub, Int.reduceEq, Nat.reduceEqDiff, Nat.zero_add, id, c_part_end_in_1_ap, w_part_end_in_1_ap, i0, n4, ix, c0, c1, ih, show here + (m + 1) = here + 1 + m by omega]
      · rw [if_neg c1] at hm
        obtain ⟨s, ih⟩ := end_loop (p := p) m (k + 1) (i + 0 - 0) (here + 1) (h + 1) (.fz (.int t[here])) hm (by omega) (by omega) rfl
        refine ⟨s, ?_⟩
        rw [mWhile_ap]
        simp -implicitDefEqProofs only [kR_r1, kR_r2, kR_r3d, intsD, mFor_ap, kForS_ap, addF_ii, addF_tt, addF_ll, addF_ss, mulF_ii, mulF_tt, mulF_ll, subF_ii, ltF_ii, leF_ii, gtF_ii, geF_ii, modF_ii, divF_ii, powF_ii, cutD_lo, cutD_hi, cutD_mid, cutD_m1, mYes_ap, truD, isi_set_int, isi_set_bool, isi_set_tuple, isi_set_list, isi_set_str, isi_set_dict, mLc_ap, allF_f, anyF_f, isi_non_int, isi_bl_int, isi_int_int, isi_str_int, isi_tup_int, isi_lst_int, isi_dK_int, isi_dT_int, isi_non_bool, isi_bl_bool, isi_int_bool, isi_str_bool, isi_tup_bool, isi_lst_bool, isi_dK_bool, isi_dT_bool, isi_non_tuple, isi_bl_tuple, isi_int_tuple, isi_str_tuple, isi_tup_tuple, isi_lst_tuple, isi_dK_tuple, isi_dT_tuple, isi_non_list, isi_bl_list, isi_int_list, isi_str_list, isi_tup_list, isi_lst_list, isi_dK_list, isi_dT_list, isi_non_str, isi_bl_str, isi_int_str, isi_str_str, isi_tup_str, isi_lst_str, isi_dK_str, isi_dT_str, isi_non_dict, isi_bl_dict, isi_int_dict, isi_str_dict, isi_tup_dict, isi_lst_dict, isi_dK_dict, isi_dT_dict, eqF_int, neF_int, eqF_bl, neF_bl, eqF_T, neF_T, eqF_Tm, neF_Tm, bndR_ok, bndR_none, bnd_ap, ret_ap, stuck_ap, mVar_ap, kVar_fz, kVar_ow, kVar_io, mC_ap, content_val, content_new, content_bor, slD_fz, slD_ow, slD_io, rv_f, rv_t, val_eq, new_eq, kRz_some, kRz_none, kP1_some, prim1_ap, kP2_some, prim2_ap, mBin_ap, kBin_ap, kBin2_ap, mUn_ap, kUn_ap, mTest_ap, kTest_ap, mTruth_ap, kTruth_ap, kTru_some, mNotT_ap, kNot_ap, mAndT_ap, mOrT_ap, kAnd_t, kAnd_f, kOr_t, kOr_f, mIf_ap, mIte_ap, kIf_t, kIf_f, mAndV_ap, mOrV_ap, kAndV_t, kAndV_f, kOrV_t, kOrV_f, mChain_ap, kCh1_ap, kCh2_ap, kCh3_ap, kLink_t, kLink_f, mChain3_ap, kC31_ap, kC32_ap, settle_val, settle_new, settle_bor, kSl_fz, kSl_ow, kOk_some, mD_ap, kD_ap, mCons_ap, kCons1_ap, kCons2_ap, mNil_ap, mStar_ap, kStar_ap, kStar1_some, kStar2_ap, mTup_ap, mLst_ap, kTup_ok, kLst_ok, mDict0_ap, mNoPart_ap, mPart_ap, kPart_ap, mSl_ap, kS1_ap, kS2_ap, kS3_ap, kS4_some, mRNil_ap, mRCons_ap, kR1_ap, kR2_ap, contents_nil, contents_cons, kCts_some, mCallB_ap, kCB_ap, kCB1_some, mArg_ap, kArg_f, kArg_val, kArg_new, kArg_bor, kArB_ow, kArB_io, mANil_ap, mACons_ap, kA1_ap, kA2_ap, mCall_ap, kCall_ap, kCall1_some, kFin_ok, owned_ow, owned_io, owned_fz, slsOf_nil, slsOf_pl, slsOf_tp, slsOf_ob, kOb_some, back_nil, back_pl, back_tp, back_ob, obs_nil, obs_pl, obs_tp, obs_ob, tps_nil, tps_pl, tps_tp, tps_ob, setOwn_ap, kSO_ow, kSO_io, mMut_ap, kMut0_some, kMut_some, mHas_ap, kHas_lst, mAppend_ap, kApp_ap, mPop_ap, mExtend_ap, kExt_ap, kExt1_some, appF_ok, extF_ok, popF_snoc, mSeq_ap, kSeq_nx, kSeq_rt, kSeq_bk, kSeq_ct, mSkip_ap, mBrk_ap, mCnt_ap, mExpr_ap, kDrop_ap, mRet_ap, kRet_val, kRet_new, kRet_bor, kRetB_fz, kRetB_ow, mRetN_ap, kNx_some, mSet_ap, kSet_ap, setSl_ap, kSS_no, kSS_fz, kSS_ow, kSS_pl, z1, z2, z3, z4, z5, z6, z7, z8, z9, z10, z11, z12, z13, z14, z15, z16, z17, z18, z19, z20, ixF_lst0, ixF_lst1, ixF_lst2, ixF_lst3, ixF_lstm, ixF_tup0, ixF_tup1, ixF_tup2, ixF_tup3, ixF_tupm, ixF_rol0, ixF_rol1, ixF_rol2, ixF_rol3, ixF_rolm, setF_0, setF_1, setF_2, setF_3, putRv_val, putRv_new, putRv_bor, noIo_no, noIo_fz, noIo_ow, mAsg_ap, kAsg_ap, gNm_ap, gTp_ap, gsNil_ap, gsCons_ap, mSt_ap, kSt_val, kSt_new, kSt_bor, mPNil_ap, mPCons_ap, kPC1_ap, mPar_ap, kPar_ap, putN_nil, putN_cons, mAug_ap, kAug_fz, kAug1_ap, mSetIx_ap, kIx_ap, kIx1_some, kIx2_ap, kIx3_some, kIx5_some, kIx4_some, setF_ok, mTurn_ap, kTurn_nx, kTurn_ct, kTurn_bk, kTurn_rt, kWh_t, kWh_f, forF_nil, kFor_some, semFn_ap, kFn_rt, kFn_nx, plain_fz, plain_io, mItems_ap, kIt_val, kIt_new, kIt_bor, kItB_fz, kItB_ow, kItB_io, kSrc_some, items_tup, items_lst, items_rol, mRng_ap, kRn_ap, kR_some, plainArg, val, new, negF, notF, lenF, absF, intF, boolF, max2F, min2F, tupleF, listF, fI, fI0, slF, isL, Rz.rv, eq_self, List.getElem?_cons_succ, List.getElem?_cons_zero, List.set_cons_succ, List.set_cons_zero, Option.map_some, Option.map_none, Option.bind_some, decide_true, decide_false, decide_not, Bool.not_true, Bool.not_false, Bool.true_and, Bool.and_true, Bool.false_and, Bool.and_false, Bool.true_or, Bool.or_true, Bool.false_or, Bool.or_false, List.nil_append, List.cons_append, List.append_nil, List.length_cons, List.length_nil, List.length_append, List.length_map, List.replicate_succ, List.replicate_zero, List.all_cons, List.all_nil, if_true, if_false, ite_true, ite_false, Nat.sub_self, Nat.reduceAdd, Nat.reduceSub, Nat.reduceLeDiff, Nat.reduceLT, List.take_succ_cons, List.take_zero, true_and, and_true, not_true, not_false_eq_true, and_self, List.nodup_nil, List.nodup_cons, List.mem_cons, List.not_mem_nil, or_false, false_or, List.map_cons, List.map_nil, List.map_append, Bool.decide_eq_true, Nat.zero_le, Bool.cond_true, Bool.cond_false, ↓reduceIte, reduceCtorEq, Int.reduceLT, Int.reduceLE, Int.reduceNeg, Int.reduceAdd, Int.reduceMul, Int.reduceSub, Int.reduceEq, Nat.reduceEqDiff, Nat.zero_add, id, c_part_end_in_1_ap, w_part_end_in_1_ap, i0, n4, ix, c0, c1, ih, show here + (m + 1) = here + 1 + m by omega]
theorem part_end_in_ok {t : List Int} {p : Nat} (hs : shp 1 t = true) (hp : p < t.length) : s_part_end_in [.fz (.tup (t.map .int)), .fz (.int p)] = some (.ok (false, .int (pend t p : Nat)) [.fz (.tup (t.map .int)), .fz (.int p)]) := by
  obtain ⟨n, h1, h2, h3⟩ := part_at hs hp
  obtain ⟨s, e⟩ := end_loop (p := .int p) n 1 1 p p .no h3 rfl rfl rfl
  simp -implicitDefEqProofs only [kR_r1, kR_r2, kR_r3d, intsD, mFor_ap, kForS_ap, addF_ii, addF_tt, addF_ll, addF_ss, mulF_ii, mulF_tt, mulF_ll, subF_ii, ltF_ii, leF_ii, gtF_ii, geF_ii, modF_ii, divF_ii, powF_ii, cutD_lo, cutD_hi, cutD_mid, cutD_m1, mYes_ap, truD, isi_set_int, isi_set_bool, isi_set_tuple, isi_set_list, isi_set_str, isi_set_dict, mLc_ap, allF_f, anyF_f, isi_non_int, isi_bl_int, isi_int_int, isi_str_int, isi_tup_int, isi_lst_int, isi_dK_int, isi_dT_int, isi_non_bool, isi_bl_bool, isi_int_bool, isi_str_bool, isi_tup_bool, isi_lst_bool, isi_dK_bool, isi_dT_bool, isi_non_tuple, isi_bl_tuple, isi_int_tuple, isi_str_tuple, isi_tup_tuple, isi_lst_tuple, isi_dK_tuple, isi_dT_tuple, isi_non_list, isi_bl_list, isi_int_list, isi_str_list, isi_tup_list, isi_lst_list, isi_dK_list, isi_dT_list, isi_non_str, isi_bl_str, isi_int_str, isi_str_str, isi_tup_str, isi_lst_str, isi_dK_str, isi_dT_str, isi_non_dict, isi_bl_dict, isi_int_dict, isi_str_dict, isi_tup_dict, isi_lst_dict, isi_dK_dict, isi_dT_dict, eqF_int, neF_int, eqF_bl, neF_bl, eqF_T, neF_T, eqF_Tm, neF_Tm, bndR_ok, bndR_none, bnd_ap, ret_ap, stuck_ap, mVar_ap, kVar_fz, kVar_ow, kVar_io, mC_ap, content_val, content_new, content_bor, slD_fz, slD_ow, slD_io, rv_f, rv_t, val_eq, new_eq, kRz_some, kRz_none, kP1_some, prim1_ap, kP2_some, prim2_ap, mBin_ap, kBin_ap, kBin2_ap, mUn_ap, kUn_ap, mTest_ap, kTest_ap, mTruth_ap, kTruth_ap, kTru_some, mNotT_ap, kNot_ap, mAndT_ap, mOrT_ap, kAnd_t, kAnd_f, kOr_t, kOr_f, mIf_ap, mIte_ap, kIf_t, kIf_f, mAndV_ap, mOrV_ap, kAndV_t, kAndV_f, kOrV_t, kOrV_f, mChain_ap, kCh1_ap, kCh2_ap, kCh3_ap, kLink_t, kLink_f, mChain3_ap, kC31_ap, kC32_ap, settle_val, settle_new, settle_bor, kSl_fz, kSl_ow, kOk_some, mD_ap, kD_ap, mCons_ap, kCons1_ap, kCons2_ap, mNil_ap, mStar_ap, kStar_ap, kStar1_some, kStar2_ap, mTup_ap, mLst_ap, kTup_ok, kLst_ok, mDict0_ap, mNoPart_ap, mPart_ap, kPart_ap, mSl_ap, kS1_ap, kS2_ap, kS3_ap, kS4_some, mRNil_ap, mRCons_ap, kR1_ap, kR2_ap, contents_nil, contents_cons, kCts_some, mCallB_ap, kCB_ap, kCB1_some, mArg_ap, kArg_f, kArg_val, kArg_new, kArg_bor, kArB_ow, kArB_io, mANil_ap, mACons_ap, kA1_ap, kA2_ap, mCall_ap, kCall_ap, kCall1_some, kFin_ok, owned_ow, owned_io, owned_fz, slsOf_nil, slsOf_pl, slsOf_tp, slsOf_ob, kOb_some, back_nil, back_pl, back_tp, back_ob, obs_nil, obs_pl, obs_tp, obs_ob, tps_nil, tps_pl, tps_tp, tps_ob, setOwn_ap, kSO_ow, kSO_io, mMut_ap, kMut0_some, kMut_some, mHas_ap, kHas_lst, mAppend_ap, kApp_ap, mPop_ap, mExtend_ap, kExt_ap, kExt1_some, appF_ok, extF_ok, popF_snoc, mSeq_ap, kSeq_nx, kSeq_rt, kSeq_bk, kSeq_ct, mSkip_ap, mBrk_ap, mCnt_ap, mExpr_ap, kDrop_ap, mRet_ap, kRet_val, kRet_new, kRet_bor, kRetB_fz, kRetB_ow, mRetN_ap, kNx_some, mSet_ap, kSet_ap, setSl_ap, kSS_no, kSS_fz, kSS_ow, kSS_pl, z1, z2, z3, z4, z5, z6, z7, z8, z9, z10, z11, z12, z13, z14, z15, z16, z17, z18, z19, z20, ixF_lst0, ixF_lst1, ixF_lst2, ixF_lst3, ixF_lstm, ixF_tup0, ixF_tup1, ixF_tup2, ixF_tup3, ixF_tupm, ixF_rol0, ixF_rol1, ixF_rol2, ixF_rol3, ixF_rolm, setF_0, setF_1, setF_2, setF_3, putRv_val, putRv_new, putRv_bor, noIo_no, noIo_fz, noIo_ow, mAsg_ap, kAsg_ap, gNm_ap, gTp_ap, gsNil_ap, gsCons_ap, mSt_ap, kSt_val, kSt_new, kSt_bor, mPNil_ap, mPCons_ap, kPC1_ap, mPar_ap, kPar_ap, putN_nil, putN_cons, mAug_ap, kAug_fz, kAug1_ap, mSetIx_ap, kIx_ap, kIx1_some, kIx2_ap, kIx3_some, kIx5_some, kIx4_some, setF_ok, mTurn_ap, kTurn_nx, kTurn_ct, kTurn_bk, kTurn_rt, kWh_t, kWh_f, forF_nil, kFor_some, semFn_ap, kFn_rt, kFn_nx, plain_fz, plain_io, mItems_ap, kIt_val, kIt_new, kIt_bor, kItB_fz, kItB_ow, kItB_io, kSrc_some, items_tup, items_lst, items_rol, mRng_ap, kRn_ap, kR_some, plainArg, val, new, negF, notF, lenF, absF, intF, boolF, max2F, min2F, tupleF, listF, fI, fI0, slF, isL, Rz.rv, eq_self, List.getElem?_cons_succ, List.getElem?_cons_zero, List.set_cons_succ, List.set_cons_zero, Option.map_some, Option.map_none, Option.bind_some, decide_true, decide_false, decide_not, Bool.not_true, Bool.not_false, Bool.true_and, Bool.and_true, Bool.false_and, Bool.and_false, Bool.true_or, Bool.or_true, Bool.false_or, Bool.or_false, List.nil_append, List.cons_append, List.append_nil, List.length_cons, List.length_nil, List.length_append, List.length_map, List.replicate_succ, List.replicate_zero, List.all_cons, List.all_nil, if_true, if_false, ite_true, ite_false, Nat.sub_self, Nat.reduceAdd, Nat.reduceSub, Nat.reduceLeDiff, Nat.reduceLT, List.take_succ_cons, List.take_zero, true_and, and_true, not_true, not_false_eq_true, and_self, List.nodup_nil, List.nodup_cons, List.mem_cons, List.not_mem_nil, or_false, false_or, List.map_cons, List.map_nil, List.map_append, Bool.decide_eq_true, Nat.zero_le, Bool.cond_true, Bool.cond_false, ↓reduceIte, reduceCtorEq, Int.reduceLT, Int.reduceLE, Int.reduceNeg, Int.reduceAdd, Int.reduceMul, Int.reduceSub, Int.reduceEq, Nat.reduceEqDiff, Nat.zero_add, id, s_part_end_in, b_part_end_in, e, pend_eq h3]
theorem within_int (i a b : Int) : s_is_within [.fz (.int i), .fz (.int a), .fz (.int b)] = some (.ok (false, .bl (decide (a ≤ i) && decide (i ≤ b))) [.fz (.int i), .fz (.int a), .fz (.int b)]) := by
  have w := whole_ok (d := .int i) ⟨_, rfl⟩
  simp only at w
  by_cases h : a ≤ i
  · simp -implicitDefEqProofs only [kR_r1, kR_r2, kR_r3d, intsD, mFor_ap, kForS_ap, addF_ii, addF_tt, addF_ll, addF_ss, mulF_ii, mulF_tt, mulF_ll, subF_ii, ltF_ii, leF_ii, gtF_ii, geF_ii, modF_ii, divF_ii, powF_ii, cutD_lo, cutD_hi, cutD_mid, cutD_m1, mYes_ap, truD, isi_set_int, isi_set_bool, isi_set_tuple, isi_set_list, isi_set_str, isi_set_dict, mLc_ap, allF_f, anyF_f, isi_non_int, isi_bl_int, isi_int_int, isi_str_int, isi_tup_int, isi_lst_int, isi_dK_int, isi_dT_int, isi_non_bool, isi_bl_bool, isi_int_bool, isi_str_bool, isi_tup_bool, isi_lst_bool, isi_dK_bool, isi_dT_bool, isi_non_tuple, isi_bl_tuple, isi_int_tuple, isi_str_tuple, isi_tup_tuple, isi_lst_tuple, isi_dK_tuple, isi_dT_tuple, isi_non_list, isi_bl_list, isi_int_list, isi_str_list, isi_tup_list, isi_lst_list, isi_dK_list, isi_dT_list, isi_non_str, isi_bl_str, isi_int_str, isi_str_str, isi_tup_str, isi_lst_str, isi_dK_str, isi_dT_str, isi_non_dict, isi_bl_dict, isi_int_dict, isi_str_dict, isi_tup_dict, isi_lst_dict, isi_dK_dict, isi_dT_dict, eqF_int, neF_int, eqF_bl, neF_bl, eqF_T, neF_T, eqF_Tm, neF_Tm, bndR_ok, bndR_none, bnd_ap, ret_ap, stuck_ap, mVar_ap, kVar_fz, kVar_ow, kVar_io, mC_ap, content_val, content_new, content_bor, slD_fz, slD_ow, slD_io, rv_f, rv_t, val_eq, new_eq, kRz_some, kRz_none, kP1_some, prim1_ap, kP2_some, prim2_ap, mBin_ap, kBin_ap, kBin2_ap, mUn_ap, kUn_ap, mTest_ap, kTest_ap, mTruth_ap, kTruth_ap, kTru_some, mNotT_ap, kNot_ap, mAndT_ap, mOrT_ap, kAnd_t, kAnd_f, kOr_t, kOr_f, mIf_ap, mIte_ap, kIf_t, kIf_f, mAndV_ap, mOrV_ap, kAndV_t, kAndV_f, kOrV_t, kOrV_f, mChain_ap, kCh1_ap, kCh2_ap, kCh3_ap, kLink_t, kLink_f, mChain3_ap, kC31_ap, kC32_ap, settle_val, settle_new, settle_bor, kSl_fz, kSl_ow, kOk_some, mD_ap, kD_ap, mCons_ap, kCons1_ap, kCons2_ap, mNil_ap, mStar_ap, kStar_ap, kStar1_some, kStar2_ap, mTup_ap, mLst_ap, kTup_ok, kLst_ok, mDict0_ap, mNoPart_ap, mPart_ap, kPart_ap, mSl_ap, kS1_ap, kS2_ap, kS3_ap, kS4_some, mRNil_ap, mRCons_ap, kR1_ap, kR2_ap, contents_nil, contents_cons, kCts_some, mCallB_ap, kCB_ap, kCB1_some, mArg_ap, kArg_f, kArg_val, kArg_new, kArg_bor, kArB_ow, kArB_io, mANil_ap, mACons_ap, kA1_ap, kA2_ap, mCall_ap, kCall_ap, kCall1_some, kFin_ok, owned_ow, owned_io, owned_fz, slsOf_nil, slsOf_pl, slsOf_tp, slsOf_ob, kOb_some, back_nil, back_pl, back_tp, back_ob, obs_nil, obs_pl, obs_tp, obs_ob, tps_nil, tps_pl, tps_tp, tps_ob, setOwn_ap, kSO_ow, kSO_io, mMut_ap, kMut0_some, kMut_some, mHas_ap, kHas_lst, mAppend_ap, kApp_ap, mPop_ap, mExtend_ap, kExt_ap, kExt1_some, appF_ok, extF_ok, popF_snoc, mSeq_ap, kSeq_nx, kSeq_rt, kSeq_bk, kSeq_ct, mSkip_ap, mBrk_ap, mCnt_ap, mExpr_ap, kDrop_ap, mRet_ap, kRet_val, kRet_new, kRet_bor, kRetB_fz, kRetB_ow, mRetN_ap, kNx_some, mSet_ap, kSet_ap, setSl_ap, kSS_no, kSS_fz, kSS_ow, kSS_pl, z1, z2, z3, z4, z5, z6, z7, z8, z9, z10, z11, z12, z13, z14, z15, z16, z17, z18, z19, z20, ixF_lst0, ixF_lst1, ixF_lst2, ixF_lst3, ixF_lstm, ixF_tup0, ixF_tup1, ixF_tup2, ixF_tup3, ixF_tupm, ixF_rol0, ixF_rol1, ixF_rol2, ixF_rol3, ixF_rolm, setF_0, setF_1, setF_2, setF_3, putRv_val, putRv_new, putRv_bor, noIo_no, noIo_fz, noIo_ow, mAsg_ap, kAsg_ap, gNm_ap, gTp_ap, gsNil_ap, gsCons_ap, mSt_ap, kSt_val, kSt_new, kSt_bor, mPNil_ap, mPCons_ap, kPC1_ap, mPar_ap, kPar_ap, putN_nil, putN_cons, mAug_ap, kAug_fz, kAug1_ap, mSetIx_ap, kIx_ap, kIx1_some, kIx2_ap, kIx3_some, kIx5_some, kIx4_some, setF_ok, mTurn_ap, kTurn_nx, kTurn_ct, kTurn_bk, kTurn_rt, kWh_t, kWh_f, forF_nil, kFor_some, semFn_ap, kFn_rt, kFn_nx, plain_fz, plain_io, mItems_ap, kIt_val, kIt_new, kIt_bor, kItB_fz, kItB_ow, kItB_io, kSrc_some, items_tup, items_lst, items_rol, mRng_ap, kRn_ap, kR_some, plainArg, val, new, negF, notF, lenF, absF, intF, boolF, max2F, min2F, tupleF, listF, fI, fI0, slF, isL, Rz.rv, eq_self, List.getElem?_cons_succ, List.getElem?_cons_zero, List.set_cons_succ, List.set_cons_zero, Option.map_some, Option.map_none, Option.bind_some, decide_true, decide_false, decide_not, Bool.not_true, Bool.not_false, Bool.true_and, Bool.and_true, Bool.false_and, Bool.and_false, Bool.true_or, Bool.or_true, Bool.false_or, Bool.or_false, List.nil_append, List.cons_append, List.append_nil, List.length_cons, List.length_nil, List.length_append, List.length_map, List.replicate_succ, List.replicate_zero, List.all_cons, List.all_nil, if_true, if_false, ite_true, ite_false, Nat.sub_self, Nat.reduceAdd, Nat.reduceSub, Nat.reduceLeDiff, Nat.reduceLT, List.take_succ_cons, List.take_zero, true_and, and_true, not_true, not_false_eq_true, and_self, List.nodup_nil, List.nodup_cons, List.mem_cons, List.not_mem_nil, or_false, false_or, List.map_cons, List.map_nil, List.map_append, Bool.decide_eq_true, Nat.zero_le, Bool.cond_true, Bool.cond_false, ↓reduceIte, reduceCtorEq, Int.reduceLT, Int.reduceLE, Int.reduceNeg, Int.reduceAdd, Int.reduceMul, Int.reduceSub, Int.reduceEq, Nat.reduceEqDiff, Nat.zero_add, id, s_is_within, b_is_within, w, h]
  · simp -implicitDefEqProofs only [kR_r1, kR_r2, kR_r3d, intsD, mFor_ap, kForS_ap, addF_ii, addF_tt, addF_ll, addF_ss, mulF_ii, mulF_tt, mulF_ll, subF_ii, ltF_ii, leF_ii, gtF_ii, geF_ii, modF_ii, divF_ii, powF_ii, cutD_lo, cutD_hi, cutD_mid, cutD_m1, mYes_ap, truD, isi_set_int, isi_set_bool, isi_set_tuple, isi_set_list, isi_set_str, isi_set_dict, mLc_ap, allF_f, anyF_f, isi_non_int, isi_bl_int, isi_int_int, isi_str_int, isi_tup_int, isi_lst_int, isi_dK_int, isi_dT_int, isi_non_bool, isi_bl_bool, isi_int_bool, isi_str_bool, isi_tup_bool, isi_lst_bool, isi_dK_bool, isi_dT_bool, isi_non_tuple, isi_bl_tuple, isi_int_tuple, isi_str_tuple, isi_tup_tuple, isi_lst_tuple, isi_dK_tuple, isi_dT_tuple, isi_non_list, isi_bl_list, isi_int_list, isi_str_list, isi_tup_list, isi_lst_list, isi_dK_list, isi_dT_list, isi_non_str, isi_bl_str, isi_int_str, isi_str_str, isi_tup_str, isi_lst_str, isi_dK_str, isi_dT_str, isi_non_dict, isi_bl_dict, isi_int_dict, isi_str_dict, isi_tup_dict, isi_lst_dict, isi_dK_dict, isi_dT_dict, eqF_int, neF_int, eqF_bl, neF_bl, eqF_T, neF_T, eqF_Tm, neF_Tm, bndR_ok, bndR_none, bnd_ap, ret_ap, stuck_ap, mVar_ap, kVar_fz, kVar_ow, kVar_io, mC_ap, content_val, content_new, content_bor, slD_fz, slD_ow, slD_io, rv_f, rv_t, val_eq, new_eq, kRz_some, kRz_none, kP1_some, prim1_ap, kP2_some, prim2_ap, mBin_ap, kBin_ap, kBin2_ap, mUn_ap, kUn_ap, mTest_ap, kTest_ap, mTruth_ap, kTruth_ap, kTru_some, mNotT_ap, kNot_ap, mAndT_ap, mOrT_ap, kAnd_t, kAnd_f, kOr_t, kOr_f, mIf_ap, mIte_ap, kIf_t, kIf_f, mAndV_ap, mOrV_ap, kAndV_t, kAndV_f, kOrV_t, kOrV_f, mChain_ap, kCh1_ap, kCh2_ap, kCh3_ap, kLink_t, kLink_f, mChain3_ap, kC31_ap, kC32_ap, settle_val, settle_new, settle_bor, kSl_fz, kSl_ow, kOk_some, mD_ap, kD_ap, mCons_ap, kCons1_ap, kCons2_ap, mNil_ap, mStar_ap, kStar_ap, kStar1_some, kStar2_ap, mTup_ap, mLst_ap, kTup_ok, kLst_ok, mDict0_ap, mNoPart_ap, mPart_ap, kPart_ap, mSl_ap, kS1_ap, kS2_ap, kS3_ap, kS4_some, mRNil_ap, mRCons_ap, kR1_ap, kR2_ap, contents_nil, contents_cons, kCts_some, mCallB_ap, kCB_ap, kCB1_some, mArg_ap, kArg_f, kArg_val, kArg_new, kArg_bor, kArB_ow, kArB_io, mANil_ap, mACons_ap, kA1_ap, kA2_ap, mCall_ap, kCall_ap, kCall1_some, kFin_ok, owned_ow, owned_io, owned_fz, slsOf_nil, slsOf_pl, slsOf_tp, slsOf_ob, kOb_some, back_nil, back_pl, back_tp, back_ob, obs_nil, obs_pl, obs_tp, obs_ob, tps_nil, tps_pl, tps_tp, tps_ob, setOwn_ap, kSO_ow, kSO_io, mMut_ap, kMut0_some, kMut_some, mHas_ap, kHas_lst, mAppend_ap, kApp_ap, mPop_ap, mExtend_ap, kExt_ap, kExt1_some, appF_ok, extF_ok, popF_snoc, mSeq_ap, kSeq_nx, kSeq_rt, kSeq_bk, kSeq_ct, mSkip_ap, mBrk_ap, mCnt_ap, mExpr_ap, kDrop_ap, mRet_ap, kRet_val, kRet_new, kRet_bor, kRetB_fz, kRetB_ow, mRetN_ap, kNx_some, mSet_ap, kSet_ap, setSl_ap, kSS_no, kSS_fz, kSS_ow, kSS_pl, z1, z2, z3, z4, z5, z6, z7, z8, z9, z10, z11, z12, z13, z14, z15, z16, z17, z18, z19, z20, ixF_lst0, ixF_lst1, ixF_lst2, ixF_lst3, ixF_lstm, ixF_tup0, ixF_tup1, ixF_tup2, ixF_tup3, ixF_tupm, ixF_rol0, ixF_rol1, ixF_rol2, ixF_rol3, ixF_rolm, setF_0, setF_1, setF_2, setF_3, putRv_val, putRv_new, putRv_bor, noIo_no, noIo_fz, noIo_ow, mAsg_ap, kAsg_ap, gNm_ap, gTp_ap, gsNil_ap, gsCons_ap, mSt_ap, kSt_val, kSt_new, kSt_bor, mPNil_ap, mPCons_ap, kPC1_ap, mPar_ap, kPar_ap, putN_nil, putN_cons, mAug_ap, kAug_fz, kAug1_ap, mSetIx_ap, kIx_ap, kIx1_some, kIx2_ap, kIx3_some, kIx5_some, kIx4_some, setF_ok, mTurn_ap, kTurn_nx, kTurn_ct, kTurn_bk, kTurn_rt, kWh_t, kWh_f, forF_nil, kFor_some, semFn_ap, kFn_rt, kFn_nx, plain_fz, plain_io, mItems_ap, kIt_val, kIt_new, kIt_bor, kItB_fz, kItB_ow, kItB_io, kSrc_some, items_tup, items_lst, items_rol, mRng_ap, kRn_ap, kR_some, plainArg, val, new, negF, notF, lenF, absF, intF, boolF, max2F, min2F, tupleF, listF, fI, fI0, slF, isL, Rz.rv, eq_self, List.getElem?_cons_succ, List.getElem?_cons_zero, List.set_cons_succ, List.set_cons_zero, Option.map_some, Option.map_none, Option.bind_some, decide_true, decide_false, decide_not, Bool.not_true, Bool.not_false, Bool.true_and, Bool.and_true, Bool.false_and, Bool.and_false, Bool.true_or, Bool.or_true, Bool.false_or, Bool.or_false, List.nil_append, List.cons_append, List.append_nil, List.length_cons, List.length_nil, List.length_append, List.length_map, List.replicate_succ, List.replicate_zero, List.all_cons, List.all_nil, if_true, if_false, ite_true, ite_false, Nat.sub_self, Nat.reduceAdd, Nat.reduceSub, Nat.reduceLeDiff, Nat.reduceLT, List.take_succ_cons, List.take_zero, true_and, and_true, not_true, not_false_eq_true, and_self, List.nodup_nil, List.nodup_cons, List.mem_cons, List.not_mem_nil, or_false, false_or, List.map_cons, List.map_nil, List.map_append, Bool.decide_eq_true, Nat.zero_le, Bool.cond_true, Bool.cond_false, ↓reduceIte, reduceCtorEq, Int.reduceLT, Int.reduceLE, Int.reduceNeg, Int.reduceAdd, Int.reduceMul, Int.reduceSub, Int.reduceEq, Nat.reduceEqDiff, Nat.zero_add, id, s_is_within, b_is_within, w, h]
/-- a list of codes that is a term -/
structure Trm (t : List Int) : Prop where
  shape : shp 1 t = true
  codes : ∀ c ∈ t, -1 ≤ c ∧ c ≤ 1000
  len : t.length ≤ 400
theorem Trm.pos {t : List Int} (h : Trm t) : 1 ≤ t.length := by
  cases t with
  | nil => exact absurd h.shape (by simp [shp])
  | cons _ _ => simp
theorem codes_all {t : List Int} (h : ∀ c ∈ t, -1 ≤ c ∧ c ≤ 1000) : (t.map D.int).all codeB = true := by
  rw [List.all_map, List.all_eq_true]
  intro c hc
  have := h c hc
  simp [codeB, this]
theorem isT_T {t : List Int} (h : Trm t) : isT (.tup (t.map .int)) = true := by
  have := h.pos
  have := h.len
  simp only [isT, isT.shpD, List.length_map, codes_all h.codes, intsD_map, h.shape]
  simp
  omega
theorem okV_int (t : List Int) : ∀ x ∈ t.map D.int, okV x := fun x hx => by
  obtain ⟨i, _, rfl⟩ := List.mem_map.mp hx
  exact ⟨_, rfl⟩
theorem okV_T (t : List Int) : okV (.tup (t.map .int)) ∧ ∀ ds, D.tup (t.map .int) = .tup ds → ∀ x ∈ ds, okV x := ⟨⟨_, rfl⟩, fun ds e x hx => by cases e; exact okV_int t x hx⟩
theorem require_place_ok {t : List Int} {p : Nat} (ht : Trm t) (hp : p < t.length) : s_require_term_place [.fz (.tup (t.map .int)), .fz (.int p)] = some (.ok (false, .non) [.fz (.tup (t.map .int)), .fz (.int p)]) := by
  have w1 := isT_in (okV_T t).1 (okV_T t).2
  rw [isT_T ht] at w1
  have w2 := within_int p 0 ((t.length : Nat) - 1)
  have c1 : (0 : Int) ≤ (p : Int) := by omega
  have c2 : (p : Int) ≤ (t.length : Int) - 1 := by omega
  simp -implicitDefEqProofs only [kR_r1, kR_r2, kR_r3d, intsD, mFor_ap, kForS_ap, addF_ii, addF_tt, addF_ll, addF_ss, mulF_ii, mulF_tt, mulF_ll, subF_ii, ltF_ii, leF_ii, gtF_ii, geF_ii, modF_ii, divF_ii, powF_ii, cutD_lo, cutD_hi, cutD_mid, cutD_m1, mYes_ap, truD, isi_set_int, isi_set_bool, isi_set_tuple, isi_set_list, isi_set_str, isi_set_dict, mLc_ap, allF_f, anyF_f, isi_non_int, isi_bl_int, isi_int_int, isi_str_int, isi_tup_int, isi_lst_int, isi_dK_int, isi_dT_int, isi_non_bool, isi_bl_bool, isi_int_bool, isi_str_bool, isi_tup_bool, isi_lst_bool, isi_dK_bool, isi_dT_bool, isi_non_tuple, isi_bl_tuple, isi_int_tuple, isi_str_tuple, isi_tup_tuple, isi_lst_tuple, isi_dK_tuple, isi_dT_tuple, isi_non_list, isi_bl_list, isi_int_list, isi_str_list, isi_tup_list, isi_lst_list, isi_dK_list, isi_dT_list, isi_non_str, isi_bl_str, isi_int_str, isi_str_str, isi_tup_str, isi_lst_str, isi_dK_str, isi_dT_str, isi_non_dict, isi_bl_dict, isi_int_dict, isi_str_dict, isi_tup_dict, isi_lst_dict, isi_dK_dict, isi_dT_dict, eqF_int, neF_int, eqF_bl, neF_bl, eqF_T, neF_T, eqF_Tm, neF_Tm, bndR_ok, bndR_none, bnd_ap, ret_ap, stuck_ap, mVar_ap, kVar_fz, kVar_ow, kVar_io, mC_ap, content_val, content_new, content_bor, slD_fz, slD_ow, slD_io, rv_f, rv_t, val_eq, new_eq, kRz_some, kRz_none, kP1_some, prim1_ap, kP2_some, prim2_ap, mBin_ap, kBin_ap, kBin2_ap, mUn_ap, kUn_ap, mTest_ap, kTest_ap, mTruth_ap, kTruth_ap, kTru_some, mNotT_ap, kNot_ap, mAndT_ap, mOrT_ap, kAnd_t, kAnd_f, kOr_t, kOr_f, mIf_ap, mIte_ap, kIf_t, kIf_f, mAndV_ap, mOrV_ap, kAndV_t, kAndV_f, kOrV_t, kOrV_f, mChain_ap, kCh1_ap, kCh2_ap, kCh3_ap, kLink_t, kLink_f, mChain3_ap, kC31_ap, kC32_ap, settle_val, settle_new, settle_bor, kSl_fz, kSl_ow, kOk_some, mD_ap, kD_ap, mCons_ap, kCons1_ap, kCons2_ap, mNil_ap, mStar_ap, kStar_ap, kStar1_some, kStar2_ap, mTup_ap, mLst_ap, kTup_ok, kLst_ok, mDict0_ap, mNoPart_ap, mPart_ap, kPart_ap, mSl_ap, kS1_ap, kS2_ap, kS3_ap, kS4_some, mRNil_ap, mRCons_ap, kR1_ap, kR2_ap, contents_nil, contents_cons, kCts_some, mCallB_ap, kCB_ap, kCB1_some, mArg_ap, kArg_f, kArg_val, kArg_new, kArg_bor, kArB_ow, kArB_io, mANil_ap, mACons_ap, kA1_ap, kA2_ap, mCall_ap, kCall_ap, kCall1_some, kFin_ok, owned_ow, owned_io, owned_fz, slsOf_nil, slsOf_pl, slsOf_tp, slsOf_ob, kOb_some, back_nil, back_pl, back_tp, back_ob, obs_nil, obs_pl, obs_tp, obs_ob, tps_nil, tps_pl, tps_tp, tps_ob, setOwn_ap, kSO_ow, kSO_io, mMut_ap, kMut0_some, kMut_some, mHas_ap, kHas_lst, mAppend_ap, kApp_ap, mPop_ap, mExtend_ap, kExt_ap, kExt1_some, appF_ok, extF_ok, popF_snoc, mSeq_ap, kSeq_nx, kSeq_rt, kSeq_bk, kSeq_ct, mSkip_ap, mBrk_ap, mCnt_ap, mExpr_ap, kDrop_ap, mRet_ap, kRet_val, kRet_new, kRet_bor, kRetB_fz, kRetB_ow, mRetN_ap, kNx_some, mSet_ap, kSet_ap, setSl_ap, kSS_no, kSS_fz, kSS_ow, kSS_pl, z1, z2, z3, z4, z5, z6, z7, z8, z9, z10, z11, z12, z13, z14, z15, z16, z17, z18, z19, z20, ixF_lst0, ixF_lst1, ixF_lst2, ixF_lst3, ixF_lstm, ixF_tup0, ixF_tup1, ixF_tup2, ixF_tup3, ixF_tupm, ixF_rol0, ixF_rol1, ixF_rol2, ixF_rol3, ixF_rolm, setF_0, setF_1, setF_2, setF_3, putRv_val, putRv_new, putRv_bor, noIo_no, noIo_fz, noIo_ow, mAsg_ap, kAsg_ap, gNm_ap, gTp_ap, gsNil_ap, gsCons_ap, mSt_ap, kSt_val, kSt_new, kSt_bor, mPNil_ap, mPCons_ap, kPC1_ap, mPar_ap, kPar_ap, putN_nil, putN_cons, mAug_ap, kAug_fz, kAug1_ap, mSetIx_ap, kIx_ap, kIx1_some, kIx2_ap, kIx3_some, kIx5_some, kIx4_some, setF_ok, mTurn_ap, kTurn_nx, kTurn_ct, kTurn_bk, kTurn_rt, kWh_t, kWh_f, forF_nil, kFor_some, semFn_ap, kFn_rt, kFn_nx, plain_fz, plain_io, mItems_ap, kIt_val, kIt_new, kIt_bor, kItB_fz, kItB_ow, kItB_io, kSrc_some, items_tup, items_lst, items_rol, mRng_ap, kRn_ap, kR_some, plainArg, val, new, negF, notF, lenF, absF, intF, boolF, max2F, min2F, tupleF, listF, fI, fI0, slF, isL, Rz.rv, eq_self, List.getElem?_cons_succ, List.getElem?_cons_zero, List.set_cons_succ, List.set_cons_zero, Option.map_some, Option.map_none, Option.bind_some, decide_true, decide_false, decide_not, Bool.not_true, Bool.not_false, Bool.true_and, Bool.and_true, Bool.false_and, Bool.and_false, Bool.true_or, Bool.or_true, Bool.false_or, Bool.or_false, List.nil_append, List.cons_append, List.append_nil, List.length_cons, List.length_nil, List.length_append, List.length_map, List.replicate_succ, List.replicate_zero, List.all_cons, List.all_nil, if_true, if_false, ite_true, ite_false, Nat.sub_self, Nat.reduceAdd, Nat.reduceSub, Nat.reduceLeDiff, Nat.reduceLT, List.take_succ_cons, List.take_zero, true_and, and_true, not_true, not_false_eq_true, and_self, List.nodup_nil, List.nodup_cons, List.mem_cons, List.not_mem_nil, or_false, false_or, List.map_cons, List.map_nil, List.map_append, Bool.decide_eq_true, Nat.zero_le, Bool.cond_true, Bool.cond_false, ↓reduceIte, reduceCtorEq, Int.reduceLT, Int.reduceLE, Int.reduceNeg, Int.reduceAdd, Int.reduceMul, Int.reduceSub, Int.reduceEq, Nat.reduceEqDiff, Nat.zero_add, id, s_require_term_place, b_require_term_place, s_require_term, b_require_term, w1, s_require_place, b_require_place, s_is_place_in, b_is_place_in, w2, c1, c2]
theorem part_end_ok {t : List Int} {p : Nat} (ht : Trm t) (hp : p < t.length) : s_part_end [.fz (.tup (t.map .int)), .fz (.int p)] = some (.ok (false, .int (pend t p : Nat)) [.fz (.tup (t.map .int)), .fz (.int p)]) := by
  have w1 := require_place_ok ht hp
  have w2 := part_end_in_ok ht.shape hp
  simp -implicitDefEqProofs only [kR_r1, kR_r2, kR_r3d, intsD, mFor_ap, kForS_ap, addF_ii, addF_tt, addF_ll, addF_ss, mulF_ii, mulF_tt, mulF_ll, subF_ii, ltF_ii, leF_ii, gtF_ii, geF_ii, modF_ii, divF_ii, powF_ii, cutD_lo, cutD_hi, cutD_mid, cutD_m1, mYes_ap, truD, isi_set_int, isi_set_bool, isi_set_tuple, isi_set_list, isi_set_str, isi_set_dict, mLc_ap, allF_f, anyF_f, isi_non_int, isi_bl_int, isi_int_int, isi_str_int, isi_tup_int, isi_lst_int, isi_dK_int, isi_dT_int, isi_non_bool, isi_bl_bool, isi_int_bool, isi_str_bool, isi_tup_bool, isi_lst_bool, isi_dK_bool, isi_dT_bool, isi_non_tuple, isi_bl_tuple, isi_int_tuple, isi_str_tuple, isi_tup_tuple, isi_lst_tuple, isi_dK_tuple, isi_dT_tuple, isi_non_list, isi_bl_list, isi_int_list, isi_str_list, isi_tup_list, isi_lst_list, isi_dK_list, isi_dT_list, isi_non_str, isi_bl_str, isi_int_str, isi_str_str, isi_tup_str, isi_lst_str, isi_dK_str, isi_dT_str, isi_non_dict, isi_bl_dict, isi_int_dict, isi_str_dict, isi_tup_dict, isi_lst_dict, isi_dK_dict, isi_dT_dict, eqF_int, neF_int, eqF_bl, neF_bl, eqF_T, neF_T, eqF_Tm, neF_Tm, bndR_ok, bndR_none, bnd_ap, ret_ap, stuck_ap, mVar_ap, kVar_fz, kVar_ow, kVar_io, mC_ap, content_val, content_new, content_bor, slD_fz, slD_ow, slD_io, rv_f, rv_t, val_eq, new_eq, kRz_some, kRz_none, kP1_some, prim1_ap, kP2_some, prim2_ap, mBin_ap, kBin_ap, kBin2_ap, mUn_ap, kUn_ap, mTest_ap, kTest_ap, mTruth_ap, kTruth_ap, kTru_some, mNotT_ap, kNot_ap, mAndT_ap, mOrT_ap, kAnd_t, kAnd_f, kOr_t, kOr_f, mIf_ap, mIte_ap, kIf_t, kIf_f, mAndV_ap, mOrV_ap, kAndV_t, kAndV_f, kOrV_t, kOrV_f, mChain_ap, kCh1_ap, kCh2_ap, kCh3_ap, kLink_t, kLink_f, mChain3_ap, kC31_ap, kC32_ap, settle_val, settle_new, settle_bor, kSl_fz, kSl_ow, kOk_some, mD_ap, kD_ap, mCons_ap, kCons1_ap, kCons2_ap, mNil_ap, mStar_ap, kStar_ap, kStar1_some, kStar2_ap, mTup_ap, mLst_ap, kTup_ok, kLst_ok, mDict0_ap, mNoPart_ap, mPart_ap, kPart_ap, mSl_ap, kS1_ap, kS2_ap, kS3_ap, kS4_some, mRNil_ap, mRCons_ap, kR1_ap, kR2_ap, contents_nil, contents_cons, kCts_some, mCallB_ap, kCB_ap, kCB1_some, mArg_ap, kArg_f, kArg_val, kArg_new, kArg_bor, kArB_ow, kArB_io, mANil_ap, mACons_ap, kA1_ap, kA2_ap, mCall_ap, kCall_ap, kCall1_some, kFin_ok, owned_ow, owned_io, owned_fz, slsOf_nil, slsOf_pl, slsOf_tp, slsOf_ob, kOb_some, back_nil, back_pl, back_tp, back_ob, obs_nil, obs_pl, obs_tp, obs_ob, tps_nil, tps_pl, tps_tp, tps_ob, setOwn_ap, kSO_ow, kSO_io, mMut_ap, kMut0_some, kMut_some, mHas_ap, kHas_lst, mAppend_ap, kApp_ap, mPop_ap, mExtend_ap, kExt_ap, kExt1_some, appF_ok, extF_ok, popF_snoc, mSeq_ap, kSeq_nx, kSeq_rt, kSeq_bk, kSeq_ct, mSkip_ap, mBrk_ap, mCnt_ap, mExpr_ap, kDrop_ap, mRet_ap, kRet_val, kRet_new, kRet_bor, kRetB_fz, kRetB_ow, mRetN_ap, kNx_some, mSet_ap, kSet_ap, setSl_ap, kSS_no, kSS_fz, kSS_ow, kSS_pl, z1, z2, z3, z4, z5, z6, z7, z8, z9, z10, z11, z12, z13, z14, z15, z16, z17, z18, z19, z20, ixF_lst0, ixF_lst1, ixF_lst2, ixF_lst3, ixF_lstm, ixF_tup0, ixF_tup1, ixF_tup2, ixF_tup3, ixF_tupm, ixF_rol0, ixF_rol1, ixF_rol2, ixF_rol3, ixF_rolm, setF_0, setF_1, setF_2, setF_3, putRv_val, putRv_new, putRv_bor, noIo_no, noIo_fz, noIo_ow, mAsg_ap, kAsg_ap, gNm_ap, gTp_ap, gsNil_ap, gsCons_ap, mSt_ap, kSt_val, kSt_new, kSt_bor, mPNil_ap, mPCons_ap, kPC1_ap, mPar_ap, kPar_ap, putN_nil, putN_cons, mAug_ap, kAug_fz, kAug1_ap, mSetIx_ap, kIx_ap, kIx1_some, kIx2_ap, kIx3_some, kIx5_some, kIx4_some, setF_ok, mTurn_ap, kTurn_nx, kTurn_ct, kTurn_bk, kTurn_rt, kWh_t, kWh_f, forF_nil, kFor_some, semFn_ap, kFn_rt, kFn_nx, plain_fz, plain_io, mItems_ap, kIt_val, kIt_new, kIt_bor, kItB_fz, kItB_ow, kItB_io, kSrc_some, items_tup, items_lst, items_rol, mRng_ap, kRn_ap, kR_some, plainArg, val, new, negF, notF, lenF, absF, intF, boolF, max2F, min2F, tupleF, listF, fI, fI0, slF, isL, Rz.rv, eq_self, List.getElem?_cons_succ, List.getElem?_cons_zero, List.set_cons_succ, List.set_cons_zero, Option.map_some, Option.map_none, Option.bind_some, decide_true, decide_false, decide_not, Bool.not_true, Bool.not_false, Bool.true_and, Bool.and_true, Bool.false_and, Bool.and_false, Bool.true_or, Bool.or_true, Bool.false_or, Bool.or_false, List.nil_append, List.cons_append, List.append_nil, List.length_cons, List.length_nil, List.length_append, List.length_map, List.replicate_succ, List.replicate_zero, List.all_cons, List.all_nil, if_true, if_false, ite_true, ite_false, Nat.sub_self, Nat.reduceAdd, Nat.reduceSub, Nat.reduceLeDiff, Nat.reduceLT, List.take_succ_cons, List.take_zero, true_and, and_true, not_true, not_false_eq_true, and_self, List.nodup_nil, List.nodup_cons, List.mem_cons, List.not_mem_nil, or_false, false_or, List.map_cons, List.map_nil, List.map_append, Bool.decide_eq_true, Nat.zero_le, Bool.cond_true, Bool.cond_false, ↓reduceIte, reduceCtorEq, Int.reduceLT, Int.reduceLE, Int.reduceNeg, Int.reduceAdd, Int.reduceMul, Int.reduceSub, Int.reduceEq, Nat.reduceEqDiff, Nat.zero_add, id, s_part_end, b_part_end, w1, w2]
theorem part_in_ok {t : List Int} {p : Nat} (hs : shp 1 t = true) (hp : p < t.length) : s_part_in [.fz (.tup (t.map .int)), .fz (.int p)] = some (.ok (false, .tup ((prt t p).map .int)) [.fz (.tup (t.map .int)), .fz (.int p)]) := by
  have w2 := part_end_in_ok hs hp
  have c1 : (0 : Int) ≤ (p : Int) := by omega
  have c2 : (0 : Int) ≤ (pend t p : Int) := by omega
  simp -implicitDefEqProofs only [kR_r1, kR_r2, kR_r3d, intsD, mFor_ap, kForS_ap, addF_ii, addF_tt, addF_ll, addF_ss, mulF_ii, mulF_tt, mulF_ll, subF_ii, ltF_ii, leF_ii, gtF_ii, geF_ii, modF_ii, divF_ii, powF_ii, cutD_lo, cutD_hi, cutD_mid, cutD_m1, mYes_ap, truD, isi_set_int, isi_set_bool, isi_set_tuple, isi_set_list, isi_set_str, isi_set_dict, mLc_ap, allF_f, anyF_f, isi_non_int, isi_bl_int, isi_int_int, isi_str_int, isi_tup_int, isi_lst_int, isi_dK_int, isi_dT_int, isi_non_bool, isi_bl_bool, isi_int_bool, isi_str_bool, isi_tup_bool, isi_lst_bool, isi_dK_bool, isi_dT_bool, isi_non_tuple, isi_bl_tuple, isi_int_tuple, isi_str_tuple, isi_tup_tuple, isi_lst_tuple, isi_dK_tuple, isi_dT_tuple, isi_non_list, isi_bl_list, isi_int_list, isi_str_list, isi_tup_list, isi_lst_list, isi_dK_list, isi_dT_list, isi_non_str, isi_bl_str, isi_int_str, isi_str_str, isi_tup_str, isi_lst_str, isi_dK_str, isi_dT_str, isi_non_dict, isi_bl_dict, isi_int_dict, isi_str_dict, isi_tup_dict, isi_lst_dict, isi_dK_dict, isi_dT_dict, eqF_int, neF_int, eqF_bl, neF_bl, eqF_T, neF_T, eqF_Tm, neF_Tm, bndR_ok, bndR_none, bnd_ap, ret_ap, stuck_ap, mVar_ap, kVar_fz, kVar_ow, kVar_io, mC_ap, content_val, content_new, content_bor, slD_fz, slD_ow, slD_io, rv_f, rv_t, val_eq, new_eq, kRz_some, kRz_none, kP1_some, prim1_ap, kP2_some, prim2_ap, mBin_ap, kBin_ap, kBin2_ap, mUn_ap, kUn_ap, mTest_ap, kTest_ap, mTruth_ap, kTruth_ap, kTru_some, mNotT_ap, kNot_ap, mAndT_ap, mOrT_ap, kAnd_t, kAnd_f, kOr_t, kOr_f, mIf_ap, mIte_ap, kIf_t, kIf_f, mAndV_ap, mOrV_ap, kAndV_t, kAndV_f, kOrV_t, kOrV_f, mChain_ap, kCh1_ap, kCh2_ap, kCh3_ap, kLink_t, kLink_f, mChain3_ap, kC31_ap, kC32_ap, settle_val, settle_new, settle_bor, kSl_fz, kSl_ow, kOk_some, mD_ap, kD_ap, mCons_ap, kCons1_ap, kCons2_ap, mNil_ap, mStar_ap, kStar_ap, kStar1_some, kStar2_ap, mTup_ap, mLst_ap, kTup_ok, kLst_ok, mDict0_ap, mNoPart_ap, mPart_ap, kPart_ap, mSl_ap, kS1_ap, kS2_ap, kS3_ap, kS4_some, mRNil_ap, mRCons_ap, kR1_ap, kR2_ap, contents_nil, contents_cons, kCts_some, mCallB_ap, kCB_ap, kCB1_some, mArg_ap, kArg_f, kArg_val, kArg_new, kArg_bor, kArB_ow, kArB_io, mANil_ap, mACons_ap, kA1_ap, kA2_ap, mCall_ap, kCall_ap, kCall1_some, kFin_ok, owned_ow, owned_io, owned_fz, slsOf_nil, slsOf_pl, slsOf_tp, slsOf_ob, kOb_some, back_nil, back_pl, back_tp, back_ob, obs_nil, obs_pl, obs_tp, obs_ob, tps_nil, tps_pl, tps_tp, tps_ob, setOwn_ap, kSO_ow, kSO_io, mMut_ap, kMut0_some, kMut_some, mHas_ap, kHas_lst, mAppend_ap, kApp_ap, mPop_ap, mExtend_ap, kExt_ap, kExt1_some, appF_ok, extF_ok, popF_snoc, mSeq_ap, kSeq_nx, kSeq_rt, kSeq_bk, kSeq_ct, mSkip_ap, mBrk_ap, mCnt_ap, mExpr_ap, kDrop_ap, mRet_ap, kRet_val, kRet_new, kRet_bor, kRetB_fz, kRetB_ow, mRetN_ap, kNx_some, mSet_ap, kSet_ap, setSl_ap, kSS_no, kSS_fz, kSS_ow, kSS_pl, z1, z2, z3, z4, z5, z6, z7, z8, z9, z10, z11, z12, z13, z14, z15, z16, z17, z18, z19, z20, ixF_lst0, ixF_lst1, ixF_lst2, ixF_lst3, ixF_lstm, ixF_tup0, ixF_tup1, ixF_tup2, ixF_tup3, ixF_tupm, ixF_rol0, ixF_rol1, ixF_rol2, ixF_rol3, ixF_rolm, setF_0, setF_1, setF_2, setF_3, putRv_val, putRv_new, putRv_bor, noIo_no, noIo_fz, noIo_ow, mAsg_ap, kAsg_ap, gNm_ap, gTp_ap, gsNil_ap, gsCons_ap, mSt_ap, kSt_val, kSt_new, kSt_bor, mPNil_ap, mPCons_ap, kPC1_ap, mPar_ap, kPar_ap, putN_nil, putN_cons, mAug_ap, kAug_fz, kAug1_ap, mSetIx_ap, kIx_ap, kIx1_some, kIx2_ap, kIx3_some, kIx5_some, kIx4_some, setF_ok, mTurn_ap, kTurn_nx, kTurn_ct, kTurn_bk, kTurn_rt, kWh_t, kWh_f, forF_nil, kFor_some, semFn_ap, kFn_rt, kFn_nx, plain_fz, plain_io, mItems_ap, kIt_val, kIt_new, kIt_bor, kItB_fz, kItB_ow, kItB_io, kSrc_some, items_tup, items_lst, items_rol, mRng_ap, kRn_ap, kR_some, plainArg, val, new, negF, notF, lenF, absF, intF, boolF, max2F, min2F, tupleF, listF, fI, fI0, slF, isL, Rz.rv, eq_self, List.getElem?_cons_succ, List.getElem?_cons_zero, List.set_cons_succ, List.set_cons_zero, Option.map_some, Option.map_none, Option.bind_some, decide_true, decide_false, decide_not, Bool.not_true, Bool.not_false, Bool.true_and, Bool.and_true, Bool.false_and, Bool.and_false, Bool.true_or, Bool.or_true, Bool.false_or, Bool.or_false, List.nil_append, List.cons_append, List.append_nil, List.length_cons, List.length_nil, List.length_append, List.length_map, List.replicate_succ, List.replicate_zero, List.all_cons, List.all_nil, if_true, if_false, ite_true, ite_false, Nat.sub_self, Nat.reduceAdd, Nat.reduceSub, Nat.reduceLeDiff, Nat.reduceLT, List.take_succ_cons, List.take_zero, true_and, and_true, not_true, not_false_eq_true, and_self, List.nodup_nil, List.nodup_cons, List.mem_cons, List.not_mem_nil, or_false, false_or, List.map_cons, List.map_nil, List.map_append, Bool.decide_eq_true, Nat.zero_le, Bool.cond_true, Bool.cond_false, ↓reduceIte, reduceCtorEq, Int.reduceLT, Int.reduceLE, Int.reduceNeg, Int.reduceAdd, Int.reduceMul, Int.reduceSub, Int.reduceEq, Nat.reduceEqDiff, Nat.zero_add, id, s_part_in, b_part_in, w2, c1, c2, prt, List.map_take, List.map_drop, Int.toNat_natCast]
theorem part_of_ok {t : List Int} {p : Nat} (ht : Trm t) (hp : p < t.length) : s_part_of [.fz (.tup (t.map .int)), .fz (.int p)] = some (.ok (false, .tup ((prt t p).map .int)) [.fz (.tup (t.map .int)), .fz (.int p)]) := by
  have w1 := require_place_ok ht hp
  have w2 := part_in_ok ht.shape hp
  simp -implicitDefEqProofs only [kR_r1, kR_r2, kR_r3d, intsD, mFor_ap, kForS_ap, addF_ii, addF_tt, addF_ll, addF_ss, mulF_ii, mulF_tt, mulF_ll, subF_ii, ltF_ii, leF_ii, gtF_ii, geF_ii, modF_ii, divF_ii, powF_ii, cutD_lo, cutD_hi, cutD_mid, cutD_m1, mYes_ap, truD, isi_set_int, isi_set_bool, isi_set_tuple, isi_set_list, isi_set_str, isi_set_dict, mLc_ap, allF_f, anyF_f, isi_non_int, isi_bl_int, isi_int_int, isi_str_int, isi_tup_int, isi_lst_int, isi_dK_int, isi_dT_int, isi_non_bool, isi_bl_bool, isi_int_bool, isi_str_bool, isi_tup_bool, isi_lst_bool, isi_dK_bool, isi_dT_bool, isi_non_tuple, isi_bl_tuple, isi_int_tuple, isi_str_tuple, isi_tup_tuple, isi_lst_tuple, isi_dK_tuple, isi_dT_tuple, isi_non_list, isi_bl_list, isi_int_list, isi_str_list, isi_tup_list, isi_lst_list, isi_dK_list, isi_dT_list, isi_non_str, isi_bl_str, isi_int_str, isi_str_str, isi_tup_str, isi_lst_str, isi_dK_str, isi_dT_str, isi_non_dict, isi_bl_dict, isi_int_dict, isi_str_dict, isi_tup_dict, isi_lst_dict, isi_dK_dict, isi_dT_dict, eqF_int, neF_int, eqF_bl, neF_bl, eqF_T, neF_T, eqF_Tm, neF_Tm, bndR_ok, bndR_none, bnd_ap, ret_ap, stuck_ap, mVar_ap, kVar_fz, kVar_ow, kVar_io, mC_ap, content_val, content_new, content_bor, slD_fz, slD_ow, slD_io, rv_f, rv_t, val_eq, new_eq, kRz_some, kRz_none, kP1_some, prim1_ap, kP2_some, prim2_ap, mBin_ap, kBin_ap, kBin2_ap, mUn_ap, kUn_ap, mTest_ap, kTest_ap, mTruth_ap, kTruth_ap, kTru_some, mNotT_ap, kNot_ap, mAndT_ap, mOrT_ap, kAnd_t, kAnd_f, kOr_t, kOr_f, mIf_ap, mIte_ap, kIf_t, kIf_f, mAndV_ap, mOrV_ap, kAndV_t, kAndV_f, kOrV_t, kOrV_f, mChain_ap, kCh1_ap, kCh2_ap, kCh3_ap, kLink_t, kLink_f, mChain3_ap, kC31_ap, kC32_ap, settle_val, settle_new, settle_bor, kSl_fz, kSl_ow, kOk_some, mD_ap, kD_ap, mCons_ap, kCons1_ap, kCons2_ap, mNil_ap, mStar_ap, kStar_ap, kStar1_some, kStar2_ap, mTup_ap, mLst_ap, kTup_ok, kLst_ok, mDict0_ap, mNoPart_ap, mPart_ap, kPart_ap, mSl_ap, kS1_ap, kS2_ap, kS3_ap, kS4_some, mRNil_ap, mRCons_ap, kR1_ap, kR2_ap, contents_nil, contents_cons, kCts_some, mCallB_ap, kCB_ap, kCB1_some, mArg_ap, kArg_f, kArg_val, kArg_new, kArg_bor, kArB_ow, kArB_io, mANil_ap, mACons_ap, kA1_ap, kA2_ap, mCall_ap, kCall_ap, kCall1_some, kFin_ok, owned_ow, owned_io, owned_fz, slsOf_nil, slsOf_pl, slsOf_tp, slsOf_ob, kOb_some, back_nil, back_pl, back_tp, back_ob, obs_nil, obs_pl, obs_tp, obs_ob, tps_nil, tps_pl, tps_tp, tps_ob, setOwn_ap, kSO_ow, kSO_io, mMut_ap, kMut0_some, kMut_some, mHas_ap, kHas_lst, mAppend_ap, kApp_ap, mPop_ap, mExtend_ap, kExt_ap, kExt1_some, appF_ok, extF_ok, popF_snoc, mSeq_ap, kSeq_nx, kSeq_rt, kSeq_bk, kSeq_ct, mSkip_ap, mBrk_ap, mCnt_ap, mExpr_ap, kDrop_ap, mRet_ap, kRet_val, kRet_new, kRet_bor, kRetB_fz, kRetB_ow, mRetN_ap, kNx_some, mSet_ap, kSet_ap, setSl_ap, kSS_no, kSS_fz, kSS_ow, kSS_pl, z1, z2, z3, z4, z5, z6, z7, z8, z9, z10, z11, z12, z13, z14, z15, z16, z17, z18, z19, z20, ixF_lst0, ixF_lst1, ixF_lst2, ixF_lst3, ixF_lstm, ixF_tup0, ixF_tup1, ixF_tup2, ixF_tup3, ixF_tupm, ixF_rol0, ixF_rol1, ixF_rol2, ixF_rol3, ixF_rolm, setF_0, setF_1, setF_2, setF_3, putRv_val, putRv_new, putRv_bor, noIo_no, noIo_fz, noIo_ow, mAsg_ap, kAsg_ap, gNm_ap, gTp_ap, gsNil_ap, gsCons_ap, mSt_ap, kSt_val, kSt_new, kSt_bor, mPNil_ap, mPCons_ap, kPC1_ap, mPar_ap, kPar_ap, putN_nil, putN_cons, mAug_ap, kAug_fz, kAug1_ap, mSetIx_ap, kIx_ap, kIx1_some, kIx2_ap, kIx3_some, kIx5_some, kIx4_some, setF_ok, mTurn_ap, kTurn_nx, kTurn_ct, kTurn_bk, kTurn_rt, kWh_t, kWh_f, forF_nil, kFor_some, semFn_ap, kFn_rt, kFn_nx, plain_fz, plain_io, mItems_ap, kIt_val, kIt_new, kIt_bor, kItB_fz, kItB_ow, kItB_io, kSrc_some, items_tup, items_lst, items_rol, mRng_ap, kRn_ap, kR_some, plainArg, val, new, negF, notF, lenF, absF, intF, boolF, max2F, min2F, tupleF, listF, fI, fI0, slF, isL, Rz.rv, eq_self, List.getElem?_cons_succ, List.getElem?_cons_zero, List.set_cons_succ, List.set_cons_zero, Option.map_some, Option.map_none, Option.bind_some, decide_true, decide_false, decide_not, Bool.not_true, Bool.not_false, Bool.true_and, Bool.and_true, Bool.false_and, Bool.and_false, Bool.true_or, Bool.or_true, Bool.false_or, Bool.or_false, List.nil_append, List.cons_append, List.append_nil, List.length_cons, List.length_nil, List.length_append, List.length_map, List.replicate_succ, List.replicate_zero, List.all_cons, List.all_nil, if_true, if_false, ite_true, ite_false, Nat.sub_self, Nat.reduceAdd, Nat.reduceSub, Nat.reduceLeDiff, Nat.reduceLT, List.take_succ_cons, List.take_zero, true_and, and_true, not_true, not_false_eq_true, and_self, List.nodup_nil, List.nodup_cons, List.mem_cons, List.not_mem_nil, or_false, false_or, List.map_cons, List.map_nil, List.map_append, Bool.decide_eq_true, Nat.zero_le, Bool.cond_true, Bool.cond_false, ↓reduceIte, reduceCtorEq, Int.reduceLT, Int.reduceLE, Int.reduceNeg, Int.reduceAdd, Int.reduceMul, Int.reduceSub, Int.reduceEq, Nat.reduceEqDiff, Nat.zero_add, id, s_part_of, b_part_of, w1, w2]
end PL

namespace PL
open PySem L2
/-- the ends from place j on -/
def eLs (t : List Int) (j : Nat) : List Int := (List.range t.length).map fun i => if j ≤ i then (pend t i : Int) else 0
theorem eLs_len (t : List Int) (j : Nat) : (eLs t j).length = t.length := by simp [eLs]
theorem eLs_get {t : List Int} {j i : Nat} (h : i < t.length) (hj : j ≤ i) : ixF (.lst ((eLs t j).map .int)) (.int i) = val (.int (pend t i : Nat)) := by
  rw [ixL (by rw [eLs_len]; exact h)]
  simp [eLs, hj]
theorem eLs_set {t : List Int} {q : Nat} (h : q < t.length) : setF (.int (pend t q : Nat)) (.int q) (.lst ((eLs t (q + 1)).map .int)) = some (.non, .lst ((eLs t q).map .int)) := by
  rw [setF_nat (by simpa [eLs_len] using h)]
  congr 3
  apply List.ext_getElem
  · simp [eLs_len]
  · intro i h1 h2
    rw [List.getElem_set]
    simp only [eLs, List.getElem_map, List.getElem_range]
    by_cases e : q = i
    · subst e; simp
    · rw [if_neg e]
      by_cases l : q ≤ i
      · rw [if_pos l, if_pos (by omega)]
      · rw [if_neg l, if_neg (by omega)]
theorem eLs_zero (t : List Int) : List.replicate t.length (D.int 0) = (eLs t t.length).map .int := by
  apply List.ext_getElem
  · simp [eLs_len]
  · intro i h1 h2
    simp at h1
    simp [eLs]
    omega
theorem ends_step {t : List Int} (ht : Trm t) {q : Nat} (hq : q < t.length) {s2 : Sl} (h2 : isPl s2 = true) {i : Int} (hi : i = q) :
    ∃ e1, gNm 2 (.int i) [.fz (.tup (t.map .int)), .ow (.lst ((eLs t (q + 1)).map .int)), s2] = some e1 ∧ w__law_ends_1 e1 = some (.ok .nx [.fz (.tup (t.map .int)), .ow (.lst ((eLs t q).map .int)), .fz (.int i)]) := by
  subst hi
  have n2 := noIo_pl h2
  refine ⟨[.fz (.tup (t.map .int)), .ow (.lst ((eLs t (q + 1)).map .int)), .fz (.int q)], by simp -implicitDefEqProofs only [kR_r1, kR_r2, kR_r3d, intsD, mFor_ap, kForS_ap, addF_ii, addF_tt, addF_ll, addF_ss, mulF_ii, mulF_tt, mulF_ll, subF_ii, ltF_ii, leF_ii, gtF_ii, geF_ii, modF_ii, divF_ii, powF_ii, cutD_lo, cutD_hi, cutD_mid, cutD_m1, mYes_ap, truD, isi_set_int, isi_set_bool, isi_set_tuple, isi_set_list, isi_set_str, isi_set_dict, mLc_ap, allF_f, anyF_f, isi_non_int, isi_bl_int, isi_int_int, isi_str_int, isi_tup_int, isi_lst_int, isi_dK_int, isi_dT_int, isi_non_bool, isi_bl_bool, isi_int_bool, isi_str_bool, isi_tup_bool, isi_lst_bool, isi_dK_bool, isi_dT_bool, isi_non_tuple, isi_bl_tuple, isi_int_tuple, isi_str_tuple, isi_tup_tuple, isi_lst_tuple, isi_dK_tuple, isi_dT_tuple, isi_non_list, isi_bl_list, isi_int_list, isi_str_list, isi_tup_list, isi_lst_list, isi_dK_list, isi_dT_list, isi_non_str, isi_bl_str, isi_int_str, isi_str_str, isi_tup_str, isi_lst_str, isi_dK_str, isi_dT_str, isi_non_dict, isi_bl_dict, isi_int_dict, isi_str_dict, isi_tup_dict, isi_lst_dict, isi_dK_dict, isi_dT_dict, eqF_int, neF_int, eqF_bl, neF_bl, eqF_T, neF_T, eqF_Tm, neF_Tm, bndR_ok, bndR_none, bnd_ap, ret_ap, stuck_ap, mVar_ap, kVar_fz, kVar_ow, kVar_io, mC_ap, content_val, content_new, content_bor, slD_fz, slD_ow, slD_io, rv_f, rv_t, val_eq, new_eq, kRz_some, kRz_none, kP1_some, prim1_ap, kP2_some, prim2_ap, mBin_ap, kBin_ap, kBin2_ap, mUn_ap, kUn_ap, mTest_ap, kTest_ap, mTruth_ap, kTruth_ap, kTru_some, mNotT_ap, kNot_ap, mAndT_ap, mOrT_ap, kAnd_t, kAnd_f, kOr_t, kOr_f, mIf_ap, mIte_ap, kIf_t, kIf_f, mAndV_ap, mOrV_ap, kAndV_t, kAndV_f, kOrV_t, kOrV_f, mChain_ap, kCh1_ap, kCh2_ap, kCh3_ap, kLink_t, kLink_f, mChain3_ap, kC31_ap, kC32_ap, settle_val, settle_new, settle_bor, kSl_fz, kSl_ow, kOk_some, mD_ap, kD_ap, mCons_ap, kCons1_ap, kCons2_ap, mNil_ap, mStar_ap, kStar_ap, kStar1_some, kStar2_ap, mTup_ap, mLst_ap, kTup_ok, kLst_ok, mDict0_ap, mNoPart_ap, mPart_ap, kPart_ap, mSl_ap, kS1_ap, kS2_ap, kS3_ap, kS4_some, mRNil_ap, mRCons_ap, kR1_ap, kR2_ap, contents_nil, contents_cons, kCts_some, mCallB_ap, kCB_ap, kCB1_some, mArg_ap, kArg_f, kArg_val, kArg_new, kArg_bor, kArB_ow, kArB_io, mANil_ap, mACons_ap, kA1_ap, kA2_ap, mCall_ap, kCall_ap, kCall1_some, kFin_ok, owned_ow, owned_io, owned_fz, slsOf_nil, slsOf_pl, slsOf_tp, slsOf_ob, kOb_some, back_nil, back_pl, back_tp, back_ob, obs_nil, obs_pl, obs_tp, obs_ob, tps_nil, tps_pl, tps_tp, tps_ob, setOwn_ap, kSO_ow, kSO_io, mMut_ap, kMut0_some, kMut_some, mHas_ap, kHas_lst, mAppend_ap, kApp_ap, mPop_ap, mExtend_ap, kExt_ap, kExt1_some, appF_ok, extF_ok, popF_snoc, mSeq_ap, kSeq_nx, kSeq_rt, kSeq_bk, kSeq_ct, mSkip_ap, mBrk_ap, mCnt_ap, mExpr_ap, kDrop_ap, mRet_ap, kRet_val, kRet_new, kRet_bor, kRetB_fz, kRetB_ow, mRetN_ap, kNx_some, mSet_ap, kSet_ap, setSl_ap, kSS_no, kSS_fz, kSS_ow, kSS_pl, z1, z2, z3, z4, z5, z6, z7, z8, z9, z10, z11, z12, z13, z14, z15, z16, z17, z18, z19, z20, ixF_lst0, ixF_lst1, ixF_lst2, ixF_lst3, ixF_lstm, ixF_tup0, ixF_tup1, ixF_tup2, ixF_tup3, ixF_tupm, ixF_rol0, ixF_rol1, ixF_rol2, ixF_rol3, ixF_rolm, setF_0, setF_1, setF_2, setF_3, putRv_val, putRv_new, putRv_bor, noIo_no, noIo_fz, noIo_ow, mAsg_ap, kAsg_ap, gNm_ap, gTp_ap, gsNil_ap, gsCons_ap, mSt_ap, kSt_val, kSt_new, kSt_bor, mPNil_ap, mPCons_ap, kPC1_ap, mPar_ap, kPar_ap, putN_nil, putN_cons, mAug_ap, kAug_fz, kAug1_ap, mSetIx_ap, kIx_ap, kIx1_some, kIx2_ap, kIx3_some, kIx5_some, kIx4_some, setF_ok, mTurn_ap, kTurn_nx, kTurn_ct, kTurn_bk, kTurn_rt, kWh_t, kWh_f, forF_nil, kFor_some, semFn_ap, kFn_rt, kFn_nx, plain_fz, plain_io, mItems_ap, kIt_val, kIt_new, kIt_bor, kItB_fz, kItB_ow, kItB_io, kSrc_some, items_tup, items_lst, items_rol, mRng_ap, kRn_ap, kR_some, plainArg, val, new, negF, notF, lenF, absF, intF, boolF, max2F, min2F, tupleF, listF, fI, fI0, slF, isL, Rz.rv, eq_self, List.getElem?_cons_succ, List.getElem?_cons_zero, List.set_cons_succ, List.set_cons_zero, Option.map_some, Option.map_none, Option.bind_some, decide_true, decide_false, decide_not, Bool.not_true, Bool.not_false, Bool.true_and, Bool.and_true, Bool.false_and, Bool.and_false, Bool.true_or, Bool.or_true, Bool.false_or, Bool.or_false, List.nil_append, List.cons_append, List.append_nil, List.length_cons, List.length_nil, List.length_append, List.length_map, List.replicate_succ, List.replicate_zero, List.all_cons, List.all_nil, if_true, if_false, ite_true, ite_false, Nat.sub_self, Nat.reduceAdd, Nat.reduceSub, Nat.reduceLeDiff, Nat.reduceLT, List.take_succ_cons, List.take_zero, true_and, and_true, not_true, not_false_eq_true, and_self, List.nodup_nil, List.nodup_cons, List.mem_cons, List.not_mem_nil, or_false, false_or, List.map_cons, List.map_nil, List.map_append, Bool.decide_eq_true, Nat.zero_le, Bool.cond_true, Bool.cond_false, ↓reduceIte, reduceCtorEq, Int.reduceLT, Int.reduceLE, Int.reduceNeg, Int.reduceAdd, Int.reduceMul, Int.reduceSub, Int.reduceEq, Nat.reduceEqDiff, Nat.zero_add, id, n2], ?_⟩
  have ix := ixT hq
  have sf := eLs_set hq
  by_cases c1 : 0 < t[q]
  · have e := pend_var hq c1
    rw [e] at sf
    simp only [Int.natCast_add, Int.cast_ofNat_Int] at sf
    simp -implicitDefEqProofs only [kR_r1, kR_r2, kR_r3d, intsD, mFor_ap, kForS_ap, addF_ii, addF_tt, addF_ll, addF_ss, mulF_ii, mulF_tt, mulF_ll, subF_ii, ltF_ii, leF_ii, gtF_ii, geF_ii, modF_ii, divF_ii, powF_ii, cutD_lo, cutD_hi, cutD_mid, cutD_m1, mYes_ap, truD, isi_set_int, isi_set_bool, isi_set_tuple, isi_set_list, isi_set_str, isi_set_dict, mLc_ap, allF_f, anyF_f, isi_non_int, isi_bl_int, isi_int_int, isi_str_int, isi_tup_int, isi_lst_int, isi_dK_int, isi_dT_int, isi_non_bool, isi_bl_bool, isi_int_bool, isi_str_bool, isi_tup_bool, isi_lst_bool, isi_dK_bool, isi_dT_bool, isi_non_tuple, isi_bl_tuple, isi_int_tuple, isi_str_tuple, isi_tup_tuple, isi_lst_tuple, isi_dK_tuple, isi_dT_tuple, isi_non_list, isi_bl_list, isi_int_list, isi_str_list, isi_tup_list, isi_lst_list, isi_dK_list, isi_dT_list, isi_non_str, isi_bl_str, isi_int_str, isi_str_str, isi_tup_str, isi_lst_str, isi_dK_str, isi_dT_str, isi_non_dict, isi_bl_dict, isi_int_dict, isi_str_dict, isi_tup_dict, isi_lst_dict, isi_dK_dict, isi_dT_dict, eqF_int, neF_int, eqF_bl, neF_bl, eqF_T, neF_T, eqF_Tm, neF_Tm, bndR_ok, bndR_none, bnd_ap, ret_ap, stuck_ap, mVar_ap, kVar_fz, kVar_ow, kVar_io, mC_ap, content_val, content_new, content_bor, slD_fz, slD_ow, slD_io, rv_f, rv_t, val_eq, new_eq, kRz_some, kRz_none, kP1_some, prim1_ap, kP2_some, prim2_ap, mBin_ap, kBin_ap, kBin2_ap, mUn_ap, kUn_ap, mTest_ap, kTest_ap, mTruth_ap, kTruth_ap, kTru_some, mNotT_ap, kNot_ap, mAndT_ap, mOrT_ap, kAnd_t, kAnd_f, kOr_t, kOr_f, mIf_ap, mIte_ap, kIf_t, kIf_f, mAndV_ap, mOrV_ap, kAndV_t, kAndV_f, kOrV_t, kOrV_f, mChain_ap, kCh1_ap, kCh2_ap, kCh3_ap, kLink_t, kLink_f, mChain3_ap, kC31_ap, kC32_ap, settle_val, settle_new, settle_bor, kSl_fz, kSl_ow, kOk_some, mD_ap, kD_ap, mCons_ap, kCons1_ap, kCons2_ap, mNil_ap, mStar_ap, kStar_ap, kStar1_some, kStar2_ap, mTup_ap, mLst_ap, kTup_ok, kLst_ok, mDict0_ap, mNoPart_ap, mPart_ap, kPart_ap, mSl_ap, kS1_ap, kS2_ap, kS3_ap, kS4_some, mRNil_ap, mRCons_ap, kR1_ap, kR2_ap, contents_nil, contents_cons, kCts_some, mCallB_ap, kCB_ap, kCB1_some, mArg_ap, kArg_f, kArg_val, kArg_new, kArg_bor, kArB_ow, kArB_io, mANil_ap, mACons_ap, kA1_ap, kA2_ap, mCall_ap, kCall_ap, kCall1_some, kFin_ok, owned_ow, owned_io, owned_fz, slsOf_nil, slsOf_pl, slsOf_tp, slsOf_ob, kOb_some, back_nil, back_pl, back_tp, back_ob, obs_nil, obs_pl, obs_tp, obs_ob, tps_nil, tps_pl, tps_tp, tps_ob, setOwn_ap, kSO_ow, kSO_io, mMut_ap, kMut0_some, kMut_some, mHas_ap, kHas_lst, mAppend_ap, kApp_ap, mPop_ap, mExtend_ap, kExt_ap, kExt1_some, appF_ok, extF_ok, popF_snoc, mSeq_ap, kSeq_nx, kSeq_rt, kSeq_bk, kSeq_ct, mSkip_ap, mBrk_ap, mCnt_ap, mExpr_ap, kDrop_ap, mRet_ap, kRet_val, kRet_new, kRet_bor, kRetB_fz, kRetB_ow, mRetN_ap, kNx_some, mSet_ap, kSet_ap, setSl_ap, kSS_no, kSS_fz, kSS_ow, kSS_pl, z1, z2, z3, z4, z5, z6, z7, z8, z9, z10, z11, z12, z13, z14, z15, z16, z17, z18, z19, z20, ixF_lst0, ixF_lst1, ixF_lst2, ixF_lst3, ixF_lstm, ixF_tup0, ixF_tup1, ixF_tup2, ixF_tup3, ixF_tupm, ixF_rol0, ixF_rol1, ixF_rol2, ixF_rol3, ixF_rolm, setF_0, setF_1, setF_2, setF_3, putRv_val, putRv_new, putRv_bor, noIo_no, noIo_fz, noIo_ow, mAsg_ap, kAsg_ap, gNm_ap, gTp_ap, gsNil_ap, gsCons_ap, mSt_ap, kSt_val, kSt_new, kSt_bor, mPNil_ap, mPCons_ap, kPC1_ap, mPar_ap, kPar_ap, putN_nil, putN_cons, mAug_ap, kAug_fz, kAug1_ap, mSetIx_ap, kIx_ap, kIx1_some, kIx2_ap, kIx3_some, kIx5_some, kIx4_some, setF_ok, mTurn_ap, kTurn_nx, kTurn_ct, kTurn_bk, kTurn_rt, kWh_t, kWh_f, forF_nil, kFor_some, semFn_ap, kFn_rt, kFn_nx, plain_fz, plain_io, mItems_ap, kIt_val, kIt_new, kIt_bor, kItB_fz, kItB_ow, kItB_io, kSrc_some, items_tup, items_lst, items_rol, mRng_ap, kRn_ap, kR_some, plainArg, val, new, negF, notF, lenF, absF, intF, boolF, max2F, min2F, tupleF, listF, fI, fI0, slF, isL, Rz.rv, eq_self, List.getElem?_cons_succ, List.getElem?_cons_zero, List.set_cons_succ, List.set_cons_zero, Option.map_some, Option.map_none, Option.bind_some, decide_true, decide_false, decide_not, Bool.not_true, Bool.not_false, Bool.true_and, Bool.and_true, Bool.false_and, Bool.and_false, Bool.true_or, Bool.or_true, Bool.false_or, Bool.or_false, List.nil_append, List.cons_append, List.append_nil, List.length_cons, List.length_nil, List.length_append, List.length_map, List.replicate_succ, List.replicate_zero, List.all_cons, List.all_nil, if_true, if_false, ite_true, ite_false, Nat.sub_self, Nat.reduceAdd, Nat.reduceSub, Nat.reduceLeDiff, Nat.reduceLT, List.take_succ_cons, List.take_zero, true_and, and_true, not_true, not_false_eq_true, and_self, List.nodup_nil, List.nodup_cons, List.mem_cons, List.not_mem_nil, or_false, false_or, List.map_cons, List.map_nil, List.map_append, Bool.decide_eq_true, Nat.zero_le, Bool.cond_true, Bool.cond_false, ↓reduceIte, reduceCtorEq, Int.reduceLT, Int.reduceLE, Int.reduceNeg, Int.reduceAdd, Int.reduceMul, Int.reduceSub, Int.reduceEq, Nat.reduceEqDiff, Nat.zero_add, id, w__law_ends_1_ap, ix, c1, sf]
  · by_cases c2 : t[q] < 0
    · obtain ⟨l, e⟩ := pend_fun ht.shape hq c2
      have g := eLs_get (j := q + 1) l (Nat.le_refl _)
      rw [e] at sf
      simp only [Int.natCast_add, Int.cast_ofNat_Int] at g
      simp -implicitDefEqProofs only [kR_r1, kR_r2, kR_r3d, intsD, mFor_ap, kForS_ap, addF_ii, addF_tt, addF_ll, addF_ss, mulF_ii, mulF_tt, mulF_ll, subF_ii, ltF_ii, leF_ii, gtF_ii, geF_ii, modF_ii, divF_ii, powF_ii, cutD_lo, cutD_hi, cutD_mid, cutD_m1, mYes_ap, truD, isi_set_int, isi_set_bool, isi_set_tuple, isi_set_list, isi_set_str, isi_set_dict, mLc_ap, allF_f, anyF_f, isi_non_int, isi_bl_int, isi_int_int, isi_str_int, isi_tup_int, isi_lst_int, isi_dK_int, isi_dT_int, isi_non_bool, isi_bl_bool, isi_int_bool, isi_str_bool, isi_tup_bool, isi_lst_bool, isi_dK_bool, isi_dT_bool, isi_non_tuple, isi_bl_tuple, isi_int_tuple, isi_str_tuple, isi_tup_tuple, isi_lst_tuple, isi_dK_tuple, isi_dT_tuple, isi_non_list, isi_bl_list, isi_int_list, isi_str_list, isi_tup_list, isi_lst_list, isi_dK_list, isi_dT_list, isi_non_str, isi_bl_str, isi_int_str, isi_str_str, isi_tup_str, isi_lst_str, isi_dK_str, isi_dT_str, isi_non_dict, isi_bl_dict, isi_int_dict, isi_str_dict, isi_tup_dict, isi_lst_dict, isi_dK_dict, isi_dT_dict, eqF_int, neF_int, eqF_bl, neF_bl, eqF_T, neF_T, eqF_Tm, neF_Tm, bndR_ok, bndR_none, bnd_ap, ret_ap, stuck_ap, mVar_ap, kVar_fz, kVar_ow, kVar_io, mC_ap, content_val, content_new, content_bor, slD_fz, slD_ow, slD_io, rv_f, rv_t, val_eq, new_eq, kRz_some, kRz_none, kP1_some, prim1_ap, kP2_some, prim2_ap, mBin_ap, kBin_ap, kBin2_ap, mUn_ap, kUn_ap, mTest_ap, kTest_ap, mTruth_ap, kTruth_ap, kTru_some, mNotT_ap, kNot_ap, mAndT_ap, mOrT_ap, kAnd_t, kAnd_f, kOr_t, kOr_f, mIf_ap, mIte_ap, kIf_t, kIf_f, mAndV_ap, mOrV_ap, kAndV_t, kAndV_f, kOrV_t, kOrV_f, mChain_ap, kCh1_ap, kCh2_ap, kCh3_ap, kLink_t, kLink_f, mChain3_ap, kC31_ap, kC32_ap, settle_val, settle_new, settle_bor, kSl_fz, kSl_ow, kOk_some, mD_ap, kD_ap, mCons_ap, kCons1_ap, kCons2_ap, mNil_ap, mStar_ap, kStar_ap, kStar1_some, kStar2_ap, mTup_ap, mLst_ap, kTup_ok, kLst_ok, mDict0_ap, mNoPart_ap, mPart_ap, kPart_ap, mSl_ap, kS1_ap, kS2_ap, kS3_ap, kS4_some, mRNil_ap, mRCons_ap, kR1_ap, kR2_ap, contents_nil, contents_cons, kCts_some, mCallB_ap, kCB_ap, kCB1_some, mArg_ap, kArg_f, kArg_val, kArg_new, kArg_bor, kArB_ow, kArB_io, mANil_ap, mACons_ap, kA1_ap, kA2_ap, mCall_ap, kCall_ap, kCall1_some, kFin_ok, owned_ow, owned_io, owned_fz, slsOf_nil, slsOf_pl, slsOf_tp, slsOf_ob, kOb_some, back_nil, back_pl, back_tp, back_ob, obs_nil, obs_pl, obs_tp, obs_ob, tps_nil, tps_pl, tps_tp, tps_ob, setOwn_ap, kSO_ow, kSO_io, mMut_ap, kMut0_some, kMut_some, mHas_ap, kHas_lst, mAppend_ap, kApp_ap, mPop_ap, mExtend_ap, kExt_ap, kExt1_some, appF_ok, extF_ok, popF_snoc, mSeq_ap, kSeq_nx, kSeq_rt, kSeq_bk, kSeq_ct, mSkip_ap, mBrk_ap, mCnt_ap, mExpr_ap, kDrop_ap, mRet_ap, kRet_val, kRet_new, kRet_bor, kRetB_fz, kRetB_ow, mRetN_ap, kNx_some, mSet_ap, kSet_ap, setSl_ap, kSS_no, kSS_fz, kSS_ow, kSS_pl, z1, z2, z3, z4, z5, z6, z7, z8, z9, z10, z11, z12, z13, z14, z15, z16, z17, z18, z19, z20, ixF_lst0, ixF_lst1, ixF_lst2, ixF_lst3, ixF_lstm, ixF_tup0, ixF_tup1, ixF_tup2, ixF_tup3, ixF_tupm, ixF_rol0, ixF_rol1, ixF_rol2, ixF_rol3, ixF_rolm, setF_0, setF_1, setF_2, setF_3, putRv_val, putRv_new, putRv_bor, noIo_no, noIo_fz, noIo_ow, mAsg_ap, kAsg_ap, gNm_ap, gTp_ap, gsNil_ap, gsCons_ap, mSt_ap, kSt_val, kSt_new, kSt_bor, mPNil_ap, mPCons_ap, kPC1_ap, mPar_ap, kPar_ap, putN_nil, putN_cons, mAug_ap, kAug_fz, kAug1_ap, mSetIx_ap, kIx_ap, kIx1_some, kIx2_ap, kIx3_some, kIx5_some, kIx4_some, setF_ok, mTurn_ap, kTurn_nx, kTurn_ct, kTurn_bk, kTurn_rt, kWh_t, kWh_f, forF_nil, kFor_some, semFn_ap, kFn_rt, kFn_nx, plain_fz, plain_io, mItems_ap, kIt_val, kIt_new, kIt_bor, kItB_fz, kItB_ow, kItB_io, kSrc_some, items_tup, items_lst, items_rol, mRng_ap, kRn_ap, kR_some, plainArg, val, new, negF, notF, lenF, absF, intF, boolF, max2F, min2F, tupleF, listF, fI, fI0, slF, isL, Rz.rv, eq_self, List.getElem?_cons_succ, List.getElem?_cons_zero, List.set_cons_succ, List.set_cons_zero, Option.map_some, Option.map_none, Option.bind_some, decide_true, decide_false, decide_not, Bool.not_true, Bool.not_false, Bool.true_and, Bool.and_true, Bool.false_and, Bool.and_false, Bool.true_or, Bool.or_true, Bool.false_or, Bool.or_false, List.nil_append, List.cons_append, List.append_nil, List.length_cons, List.length_nil, List.length_append, List.length_map, List.replicate_succ, List.replicate_zero, List.all_cons, List.all_nil, if_true, if_false, ite_true, ite_false, Nat.sub_self, Nat.reduceAdd, Nat.reduceSub, Nat.reduceLeDiff, Nat.reduceLT, List.take_succ_cons, List.take_zero, true_and, and_true, not_true, not_false_eq_true, and_self, List.nodup_nil, List.nodup_cons, List.mem_cons, List.not_mem_nil, or_false, false_or, List.map_cons, List.map_nil, List.map_append, Bool.decide_eq_true, Nat.zero_le, Bool.cond_true, Bool.cond_false, ↓reduceIte, reduceCtorEq, Int.reduceLT, Int.reduceLE, Int.reduceNeg, Int.reduceAdd, Int.reduceMul, Int.reduceSub, Int.reduceEq, Nat.reduceEqDiff, Nat.zero_add, id, w__law_ends_1_ap, ix, c1, c2, sf, g]
    · have c0 : t[q] = 0 := by omega
      obtain ⟨l, l2, e⟩ := pend_call ht.shape hq c0
      have lp := pend_le ht.shape l
      have g := eLs_get (j := q + 1) l (Nat.le_refl _)
      have g2 := eLs_get (j := q + 1) l2 (by omega)
      rw [e] at sf
      simp only [Int.natCast_add, Int.cast_ofNat_Int] at g
      have z : ¬ (0 : Int) < 0 := by omega
      simp -implicitDefEqProofs only [kR_r1, kR_r2, kR_r3d, intsD, mFor_ap, kForS_ap, addF_ii, addF_tt, addF_ll, addF_ss, mulF_ii, mulF_tt, mulF_ll, subF_ii, ltF_ii, leF_ii, gtF_ii, geF_ii, modF_ii, divF_ii, powF_ii, cutD_lo, cutD_hi, cutD_mid, cutD_m1, mYes_ap, truD, isi_set_int, isi_set_bool, isi_set_tuple, isi_set_list, isi_set_str, isi_set_dict, mLc_ap, allF_f, anyF_f, isi_non_int, isi_bl_int, isi_int_int, isi_str_int, isi_tup_int, isi_lst_int, isi_dK_int, isi_dT_int, isi_non_bool, isi_bl_bool, isi_int_bool, isi_str_bool, isi_tup_bool, isi_lst_bool, isi_dK_bool, isi_dT_bool, isi_non_tuple, isi_bl_tuple, isi_int_tuple, isi_str_tuple, isi_tup_tuple, isi_lst_tuple, isi_dK_tuple, isi_dT_tuple, isi_non_list, isi_bl_list, isi_int_list, isi_str_list, isi_tup_list, isi_lst_list, isi_dK_list, isi_dT_list, isi_non_str, isi_bl_str, isi_int_str, isi_str_str, isi_tup_str, isi_lst_str, isi_dK_str, isi_dT_str, isi_non_dict, isi_bl_dict, isi_int_dict, isi_str_dict, isi_tup_dict, isi_lst_dict, isi_dK_dict, isi_dT_dict, eqF_int, neF_int, eqF_bl, neF_bl, eqF_T, neF_T, eqF_Tm, neF_Tm, bndR_ok, bndR_none, bnd_ap, ret_ap, stuck_ap, mVar_ap, kVar_fz, kVar_ow, kVar_io, mC_ap, content_val, content_new, content_bor, slD_fz, slD_ow, slD_io, rv_f, rv_t, val_eq, new_eq, kRz_some, kRz_none, kP1_some, prim1_ap, kP2_some, prim2_ap, mBin_ap, kBin_ap, kBin2_ap, mUn_ap, kUn_ap, mTest_ap, kTest_ap, mTruth_ap, kTruth_ap, kTru_some, mNotT_ap, kNot_ap, mAndT_ap, mOrT_ap, kAnd_t, kAnd_f, kOr_t, kOr_f, mIf_ap, mIte_ap, kIf_t, kIf_f, mAndV_ap, mOrV_ap, kAndV_t, kAndV_f, kOrV_t, kOrV_f, mChain_ap, kCh1_ap, kCh2_ap, kCh3_ap, kLink_t, kLink_f, mChain3_ap, kC31_ap, kC32_ap, settle_val, settle_new, settle_bor, kSl_fz, kSl_ow, kOk_some, mD_ap, kD_ap, mCons_ap, kCons1_ap, kCons2_ap, mNil_ap, mStar_ap, kStar_ap, kStar1_some, kStar2_ap, mTup_ap, mLst_ap, kTup_ok, kLst_ok, mDict0_ap, mNoPart_ap, mPart_ap, kPart_ap, mSl_ap, kS1_ap, kS2_ap, kS3_ap, kS4_some, mRNil_ap, mRCons_ap, kR1_ap, kR2_ap, contents_nil, contents_cons, kCts_some, mCallB_ap, kCB_ap, kCB1_some, mArg_ap, kArg_f, kArg_val, kArg_new, kArg_bor, kArB_ow, kArB_io, mANil_ap, mACons_ap, kA1_ap, kA2_ap, mCall_ap, kCall_ap, kCall1_some, kFin_ok, owned_ow, owned_io, owned_fz, slsOf_nil, slsOf_pl, slsOf_tp, slsOf_ob, kOb_some, back_nil, back_pl, back_tp, back_ob, obs_nil, obs_pl, obs_tp, obs_ob, tps_nil, tps_pl, tps_tp, tps_ob, setOwn_ap, kSO_ow, kSO_io, mMut_ap, kMut0_some, kMut_some, mHas_ap, kHas_lst, mAppend_ap, kApp_ap, mPop_ap, mExtend_ap, kExt_ap, kExt1_some, appF_ok, extF_ok, popF_snoc, mSeq_ap, kSeq_nx, kSeq_rt, kSeq_bk, kSeq_ct, mSkip_ap, mBrk_ap, mCnt_ap, mExpr_ap, kDrop_ap, mRet_ap, kRet_val, kRet_new, kRet_bor, kRetB_fz, kRetB_ow, mRetN_ap, kNx_some, mSet_ap, kSet_ap, setSl_ap, kSS_no, kSS_fz, kSS_ow, kSS_pl, z1, z2, z3, z4, z5, z6, z7, z8, z9, z10, z11, z12, z13, z14, z15, z16, z17, z18, z19, z20, ixF_lst0, ixF_lst1, ixF_lst2, ixF_lst3, ixF_lstm, ixF_tup0, ixF_tup1, ixF_tup2, ixF_tup3, ixF_tupm, ixF_rol0, ixF_rol1, ixF_rol2, ixF_rol3, ixF_rolm, setF_0, setF_1, setF_2, setF_3, putRv_val, putRv_new, putRv_bor, noIo_no, noIo_fz, noIo_ow, mAsg_ap, kAsg_ap, gNm_ap, gTp_ap, gsNil_ap, gsCons_ap, mSt_ap, kSt_val, kSt_new, kSt_bor, mPNil_ap, mPCons_ap, kPC1_ap, mPar_ap, kPar_ap, putN_nil, putN_cons, mAug_ap, kAug_fz, kAug1_ap, mSetIx_ap, kIx_ap, kIx1_some, kIx2_ap, kIx3_some, kIx5_some, kIx4_some, setF_ok, mTurn_ap, kTurn_nx, kTurn_ct, kTurn_bk, kTurn_rt, kWh_t, kWh_f, forF_nil, kFor_some, semFn_ap, kFn_rt, kFn_nx, plain_fz, plain_io, mItems_ap, kIt_val, kIt_new, kIt_bor, kItB_fz, kItB_ow, kItB_io, kSrc_some, items_tup, items_lst, items_rol, mRng_ap, kRn_ap, kR_some, plainArg, val, new, negF, notF, lenF, absF, intF, boolF, max2F, min2F, tupleF, listF, fI, fI0, slF, isL, Rz.rv, eq_self, List.getElem?_cons_succ, List.getElem?_cons_zero, List.set_cons_succ, List.set_cons_zero, Option.map_some, Option.map_none, Option.bind_some, decide_true, decide_false, decide_not, Bool.not_true, Bool.not_false, Bool.true_and, Bool.and_true, Bool.false_and, Bool.and_false, Bool.true_or, Bool.or_true, Bool.false_or, Bool.or_false, List.nil_append, List.cons_append, List.append_nil, List.length_cons, List.length_nil, List.length_append, List.length_map, List.replicate_succ, List.replicate_zero, List.all_cons, List.all_nil, if_true, if_false, ite_true, ite_false, Nat.sub_self, Nat.reduceAdd, Nat.reduceSub, Nat.reduceLeDiff, Nat.reduceLT, List.take_succ_cons, List.take_zero, true_and, and_true, not_true, not_false_eq_true, and_self, List.nodup_nil, List.nodup_cons, List.mem_cons, List.not_mem_nil, or_false, false_or, List.map_cons, List.map_nil, List.map_append, Bool.decide_eq_true, Nat.zero_le, Bool.cond_true, Bool.cond_false, ↓reduceIte, reduceCtorEq, Int.reduceLT, Int.reduceLE, Int.reduceNeg, Int.reduceAdd, Int.reduceMul, Int.reduceSub, Int.reduceEq, Nat.reduceEqDiff, Nat.zero_add, id, w__law_ends_1_ap, ix, c0, z, sf, g, g2]
theorem ends_loop {t : List Int} (ht : Trm t) : ∃ s2, forF (gNm 2) w__law_ends_1 (rngC ((t.length : Int) - 1) (-1) t.length) [.fz (.tup (t.map .int)), .ow (.lst ((eLs t t.length).map .int)), .no] = some (.ok .nx [.fz (.tup (t.map .int)), .ow (.lst ((eLs t 0).map .int)), s2]) := by
  obtain ⟨e, h1, h2⟩ := forF_inv (g := gNm 2) (b := w__law_ends_1) (ds := rngC ((t.length : Int) - 1) (-1) t.length) (k := 0) (env := [.fz (.tup (t.map .int)), .ow (.lst ((eLs t t.length).map .int)), .no]) (I := fun k e => ∃ s2, isPl s2 = true ∧ e = [.fz (.tup (t.map .int)), .ow (.lst ((eLs t (t.length - k)).map .int)), s2]) ⟨.no, rfl, rfl⟩ fun j e hj ⟨s2, p2, he⟩ => by
    subst he
    simp only [rngC, List.length_map, List.length_range] at hj
    obtain ⟨q, eq⟩ : ∃ q, t.length = q + 1 + j := ⟨t.length - 1 - j, by omega⟩
    obtain ⟨e1, g1, g2⟩ := ends_step ht (q := q) (by omega) p2 (i := (t.length : Int) - 1 + (j : Nat) * -1) (by omega)
    refine ⟨e1, _, ?_, g2, .fz (.int ((t.length : Int) - 1 + (j : Nat) * -1)), rfl, ?_⟩
    · simp only [rngC, List.getElem_map, List.getElem_range]
      rw [show t.length - (0 + j) = q + 1 by omega]
      exact g1
    · rw [show t.length - (0 + j + 1) = q by omega]
  have ln : (rngC ((t.length : Int) - 1) (-1) t.length).length = t.length := by simp only [rngC, List.length_map, List.length_range]
  rw [ln] at h2
  obtain ⟨s2, p2, rfl⟩ := h2
  rw [Nat.zero_add, Nat.sub_self] at h1
  exact ⟨s2, h1⟩
theorem ends_ok {t : List Int} (ht : Trm t) : s__law_ends [.fz (.tup (t.map .int))] = some (.ok (true, .lst ((eLs t 0).map .int)) [.fz (.tup (t.map .int))]) := by
  have hl := ht.len
  have hp := ht.pos
  have n : ((t.length : Int) - 1 - -1).toNat = t.length := by omega
  obtain ⟨s2, h1⟩ := ends_loop ht
  have sz : t.length ≤ sizeLine := sizeL (by omega)
  have m1 := mulF_l1 (x := .int 0) sz
  rw [eLs_zero] at m1
  simp -implicitDefEqProofs (disch := first | assumption | (have := szL; omega) | (simp -implicitDefEqProofs only [len_rep, Nat.mul_one, Nat.reduceMul, Int.toNat_natCast, List.length_cons, List.length_nil, List.length_append, List.length_map, List.length_take, List.length_drop, List.length_replicate, noIo_no, noIo_fz, noIo_ow, plain_fz, plain_io, List.all_cons, List.all_nil, Bool.and_true, Bool.true_and, and_self, and_true, true_and, eq_self, ne_eq, not_false_eq_true, reduceCtorEq, Nat.zero_le, Nat.reduceAdd, Nat.zero_add, m1, n, h1]; done) | (simp -implicitDefEqProofs only [len_rep, Nat.mul_one, Nat.reduceMul, Int.toNat_natCast, List.length_cons, List.length_nil, List.length_append, List.length_map, List.length_take, List.length_drop, List.length_replicate, noIo_no, noIo_fz, noIo_ow, plain_fz, plain_io, List.all_cons, List.all_nil, Bool.and_true, Bool.true_and, and_self, and_true, true_and, eq_self, ne_eq, not_false_eq_true, reduceCtorEq, Nat.zero_le, Nat.reduceAdd, Nat.zero_add, m1, n, h1]; have := szL; omega)) only [kR_r1, kR_r2, kR_r3d, intsD, mFor_ap, kForS_ap, addF_ii, addF_tt, addF_ll, addF_ss, mulF_ii, mulF_tt, subF_ii, ltF_ii, leF_ii, gtF_ii, geF_ii, modF_ii, divF_ii, powF_ii, cutD_lo, cutD_hi, cutD_mid, cutD_m1, mYes_ap, truD, isi_set_int, isi_set_bool, isi_set_tuple, isi_set_list, isi_set_str, isi_set_dict, mLc_ap, allF_f, anyF_f, isi_non_int, isi_bl_int, isi_int_int, isi_str_int, isi_tup_int, isi_lst_int, isi_dK_int, isi_dT_int, isi_non_bool, isi_bl_bool, isi_int_bool, isi_str_bool, isi_tup_bool, isi_lst_bool, isi_dK_bool, isi_dT_bool, isi_non_tuple, isi_bl_tuple, isi_int_tuple, isi_str_tuple, isi_tup_tuple, isi_lst_tuple, isi_dK_tuple, isi_dT_tuple, isi_non_list, isi_bl_list, isi_int_list, isi_str_list, isi_tup_list, isi_lst_list, isi_dK_list, isi_dT_list, isi_non_str, isi_bl_str, isi_int_str, isi_str_str, isi_tup_str, isi_lst_str, isi_dK_str, isi_dT_str, isi_non_dict, isi_bl_dict, isi_int_dict, isi_str_dict, isi_tup_dict, isi_lst_dict, isi_dK_dict, isi_dT_dict, eqF_int, neF_int, eqF_bl, neF_bl, eqF_T, neF_T, eqF_Tm, neF_Tm, bndR_ok, bndR_none, bnd_ap, ret_ap, stuck_ap, mVar_ap, kVar_fz, kVar_ow, kVar_io, mC_ap, content_val, content_new, content_bor, slD_fz, slD_ow, slD_io, rv_f, rv_t, val_eq, new_eq, kRz_some, kRz_none, kP1_some, prim1_ap, kP2_some, prim2_ap, mBin_ap, kBin_ap, kBin2_ap, mUn_ap, kUn_ap, mTest_ap, kTest_ap, mTruth_ap, kTruth_ap, kTru_some, mNotT_ap, kNot_ap, mAndT_ap, mOrT_ap, kAnd_t, kAnd_f, kOr_t, kOr_f, mIf_ap, mIte_ap, kIf_t, kIf_f, mAndV_ap, mOrV_ap, kAndV_t, kAndV_f, kOrV_t, kOrV_f, mChain_ap, kCh1_ap, kCh2_ap, kCh3_ap, kLink_t, kLink_f, mChain3_ap, kC31_ap, kC32_ap, settle_val, settle_new, settle_bor, kSl_fz, kSl_ow, kOk_some, mD_ap, kD_ap, mCons_ap, kCons1_ap, kCons2_ap, mNil_ap, mStar_ap, kStar_ap, kStar1_some, kStar2_ap, mTup_ap, mLst_ap, kTup_ok, kLst_ok, mDict0_ap, mNoPart_ap, mPart_ap, kPart_ap, mSl_ap, kS1_ap, kS2_ap, kS3_ap, kS4_some, mRNil_ap, mRCons_ap, kR1_ap, kR2_ap, contents_nil, contents_cons, kCts_some, mCallB_ap, kCB_ap, kCB1_some, mArg_ap, kArg_f, kArg_val, kArg_new, kArg_bor, kArB_ow, kArB_io, mANil_ap, mACons_ap, kA1_ap, kA2_ap, mCall_ap, kCall_ap, kCall1_some, kFin_ok, owned_ow, owned_io, owned_fz, slsOf_nil, slsOf_pl, slsOf_tp, slsOf_ob, kOb_some, back_nil, back_pl, back_tp, back_ob, obs_nil, obs_pl, obs_tp, obs_ob, tps_nil, tps_pl, tps_tp, tps_ob, setOwn_ap, kSO_ow, kSO_io, mMut_ap, kMut0_some, kMut_some, mHas_ap, kHas_lst, mAppend_ap, kApp_ap, mPop_ap, mExtend_ap, kExt_ap, kExt1_some, appF_ok, extF_ok, popF_snoc, mSeq_ap, kSeq_nx, kSeq_rt, kSeq_bk, kSeq_ct, mSkip_ap, mBrk_ap, mCnt_ap, mExpr_ap, kDrop_ap, mRet_ap, kRet_val, kRet_new, kRet_bor, kRetB_fz, kRetB_ow, mRetN_ap, kNx_some, mSet_ap, kSet_ap, setSl_ap, kSS_no, kSS_fz, kSS_ow, kSS_pl, z1, z2, z3, z4, z5, z6, z7, z8, z9, z10, z11, z12, z13, z14, z15, z16, z17, z18, z19, z20, ixF_lst0, ixF_lst1, ixF_lst2, ixF_lst3, ixF_lstm, ixF_tup0, ixF_tup1, ixF_tup2, ixF_tup3, ixF_tupm, ixF_rol0, ixF_rol1, ixF_rol2, ixF_rol3, ixF_rolm, setF_0, setF_1, setF_2, setF_3, putRv_val, putRv_new, putRv_bor, noIo_no, noIo_fz, noIo_ow, mAsg_ap, kAsg_ap, gNm_ap, gTp_ap, gsNil_ap, gsCons_ap, mSt_ap, kSt_val, kSt_new, kSt_bor, mPNil_ap, mPCons_ap, kPC1_ap, mPar_ap, kPar_ap, putN_nil, putN_cons, mAug_ap, kAug_fz, kAug1_ap, mSetIx_ap, kIx_ap, kIx1_some, kIx2_ap, kIx3_some, kIx5_some, kIx4_some, setF_ok, mTurn_ap, kTurn_nx, kTurn_ct, kTurn_bk, kTurn_rt, kWh_t, kWh_f, forF_nil, kFor_some, semFn_ap, kFn_rt, kFn_nx, plain_fz, plain_io, mItems_ap, kIt_val, kIt_new, kIt_bor, kItB_fz, kItB_ow, kItB_io, kSrc_some, items_tup, items_lst, items_rol, mRng_ap, kRn_ap, kR_some, plainArg, val, new, negF, notF, lenF, absF, intF, boolF, max2F, min2F, tupleF, listF, fI, fI0, slF, isL, Rz.rv, eq_self, List.getElem?_cons_succ, List.getElem?_cons_zero, List.set_cons_succ, List.set_cons_zero, Option.map_some, Option.map_none, Option.bind_some, decide_true, decide_false, decide_not, Bool.not_true, Bool.not_false, Bool.true_and, Bool.and_true, Bool.false_and, Bool.and_false, Bool.true_or, Bool.or_true, Bool.false_or, Bool.or_false, List.nil_append, List.cons_append, List.append_nil, List.length_cons, List.length_nil, List.length_append, List.length_map, List.replicate_succ, List.replicate_zero, List.all_cons, List.all_nil, if_true, if_false, ite_true, ite_false, Nat.sub_self, Nat.reduceAdd, Nat.reduceSub, Nat.reduceLeDiff, Nat.reduceLT, List.take_succ_cons, List.take_zero, true_and, and_true, not_true, not_false_eq_true, and_self, List.nodup_nil, List.nodup_cons, List.mem_cons, List.not_mem_nil, or_false, false_or, List.map_cons, List.map_nil, List.map_append, Bool.decide_eq_true, Nat.zero_le, Bool.cond_true, Bool.cond_false, ↓reduceIte, reduceCtorEq, Int.reduceLT, Int.reduceLE, Int.reduceNeg, Int.reduceAdd, Int.reduceMul, Int.reduceSub, Int.reduceEq, Nat.reduceEqDiff, Nat.zero_add, id, decide_eq_true, decide_eq_false, s__law_ends, b__law_ends, m1, n, h1]
end PL

namespace PL
open PySem L2
/-- a value of this law -/
def okW (d : D) : Prop := okV d ∧ ∀ ds, d = .tup ds → ∀ x ∈ ds, okV x
theorem okW.tup {ds : List D} (h : ∀ x ∈ ds, okV x) : okW (.tup ds) := ⟨⟨_, rfl⟩, fun es e x hx => by cases e; exact h x hx⟩
theorem okW.lst {ds : List D} : okW (.lst ds) := ⟨⟨_, rfl⟩, fun es e => by cases e⟩
theorem okW.int {i : Int} : okW (.int i) := ⟨⟨_, rfl⟩, fun es e => by cases e⟩
theorem okW.bl {i : Bool} : okW (.bl i) := ⟨⟨_, rfl⟩, fun es e => by cases e⟩
theorem okW.str {i : Str} : okW (.str i) := ⟨⟨_, rfl⟩, fun es e => by cases e⟩
theorem okW.non : okW .non := ⟨⟨_, rfl⟩, fun es e => by cases e⟩
theorem okW.dK {m} : okW (.dK m) := ⟨⟨_, rfl⟩, fun es e => by cases e⟩
theorem near_step {t : List Int} (ht : t.length ≤ 400) {d : D} {p : Nat} {vs : List D} (hv : ∀ v ∈ vs, okW v) (hl : vs.length ≤ 100) {s4 : Sl} (h4 : isPl s4 = true) {c : D} (hc : okV c) :
    ∃ e1 v, okW v ∧ gNm 4 c [.io d, .fz (.tup (t.map .int)), .fz (.int p), .ow (.lst vs), s4] = some e1 ∧ w__law_near_values_1 e1 = some (.ok .nx [.io d, .fz (.tup (t.map .int)), .fz (.int p), .ow (.lst (vs ++ [v])), .fz c]) := by
  have n4 := noIo_pl h4
  refine ⟨[.io d, .fz (.tup (t.map .int)), .fz (.int p), .ow (.lst vs), .fz c], .tup ((t.map .int).take p ++ [c] ++ (t.map .int).drop (p + 1)), okW.tup fun x hx => ?_, by simp -implicitDefEqProofs (disch := first | assumption | (have := szL; omega) | (simp -implicitDefEqProofs only [len_rep, Nat.mul_one, Nat.reduceMul, Int.toNat_natCast, List.length_cons, List.length_nil, List.length_append, List.length_map, List.length_take, List.length_drop, List.length_replicate, noIo_no, noIo_fz, noIo_ow, plain_fz, plain_io, List.all_cons, List.all_nil, Bool.and_true, Bool.true_and, and_self, and_true, true_and, eq_self, ne_eq, not_false_eq_true, reduceCtorEq, Nat.zero_le, Nat.reduceAdd, Nat.zero_add, n4]; done) | (simp -implicitDefEqProofs only [len_rep, Nat.mul_one, Nat.reduceMul, Int.toNat_natCast, List.length_cons, List.length_nil, List.length_append, List.length_map, List.length_take, List.length_drop, List.length_replicate, noIo_no, noIo_fz, noIo_ow, plain_fz, plain_io, List.all_cons, List.all_nil, Bool.and_true, Bool.true_and, and_self, and_true, true_and, eq_self, ne_eq, not_false_eq_true, reduceCtorEq, Nat.zero_le, Nat.reduceAdd, Nat.zero_add, n4]; have := szL; omega)) only [kR_r1, kR_r2, kR_r3d, intsD, mFor_ap, kForS_ap, addF_ii, addF_tt, addF_ll, addF_ss, mulF_ii, mulF_tt, mulF_ll, subF_ii, ltF_ii, leF_ii, gtF_ii, geF_ii, modF_ii, divF_ii, powF_ii, cutD_lo, cutD_hi, cutD_mid, cutD_m1, mYes_ap, truD, isi_set_int, isi_set_bool, isi_set_tuple, isi_set_list, isi_set_str, isi_set_dict, mLc_ap, allF_f, anyF_f, isi_non_int, isi_bl_int, isi_int_int, isi_str_int, isi_tup_int, isi_lst_int, isi_dK_int, isi_dT_int, isi_non_bool, isi_bl_bool, isi_int_bool, isi_str_bool, isi_tup_bool, isi_lst_bool, isi_dK_bool, isi_dT_bool, isi_non_tuple, isi_bl_tuple, isi_int_tuple, isi_str_tuple, isi_tup_tuple, isi_lst_tuple, isi_dK_tuple, isi_dT_tuple, isi_non_list, isi_bl_list, isi_int_list, isi_str_list, isi_tup_list, isi_lst_list, isi_dK_list, isi_dT_list, isi_non_str, isi_bl_str, isi_int_str, isi_str_str, isi_tup_str, isi_lst_str, isi_dK_str, isi_dT_str, isi_non_dict, isi_bl_dict, isi_int_dict, isi_str_dict, isi_tup_dict, isi_lst_dict, isi_dK_dict, isi_dT_dict, eqF_int, neF_int, eqF_bl, neF_bl, eqF_T, neF_T, eqF_Tm, neF_Tm, bndR_ok, bndR_none, bnd_ap, ret_ap, stuck_ap, mVar_ap, kVar_fz, kVar_ow, kVar_io, mC_ap, content_val, content_new, content_bor, slD_fz, slD_ow, slD_io, rv_f, rv_t, val_eq, new_eq, kRz_some, kRz_none, kP1_some, prim1_ap, kP2_some, prim2_ap, mBin_ap, kBin_ap, kBin2_ap, mUn_ap, kUn_ap, mTest_ap, kTest_ap, mTruth_ap, kTruth_ap, kTru_some, mNotT_ap, kNot_ap, mAndT_ap, mOrT_ap, kAnd_t, kAnd_f, kOr_t, kOr_f, mIf_ap, mIte_ap, kIf_t, kIf_f, mAndV_ap, mOrV_ap, kAndV_t, kAndV_f, kOrV_t, kOrV_f, mChain_ap, kCh1_ap, kCh2_ap, kCh3_ap, kLink_t, kLink_f, mChain3_ap, kC31_ap, kC32_ap, settle_val, settle_new, settle_bor, kSl_fz, kSl_ow, kOk_some, mD_ap, kD_ap, mCons_ap, kCons1_ap, kCons2_ap, mNil_ap, mStar_ap, kStar_ap, kStar1_some, kStar2_ap, mTup_ap, mLst_ap, kTup_ok, kLst_ok, mDict0_ap, mNoPart_ap, mPart_ap, kPart_ap, mSl_ap, kS1_ap, kS2_ap, kS3_ap, kS4_some, mRNil_ap, mRCons_ap, kR1_ap, kR2_ap, contents_nil, contents_cons, kCts_some, mCallB_ap, kCB_ap, kCB1_some, mArg_ap, kArg_f, kArg_val, kArg_new, kArg_bor, kArB_ow, kArB_io, mANil_ap, mACons_ap, kA1_ap, kA2_ap, mCall_ap, kCall_ap, kCall1_some, kFin_ok, owned_ow, owned_io, owned_fz, slsOf_nil, slsOf_pl, slsOf_tp, slsOf_ob, kOb_some, back_nil, back_pl, back_tp, back_ob, obs_nil, obs_pl, obs_tp, obs_ob, tps_nil, tps_pl, tps_tp, tps_ob, setOwn_ap, kSO_ow, kSO_io, mMut_ap, kMut0_some, kMut_some, mHas_ap, kHas_lst, mAppend_ap, kApp_ap, mPop_ap, mExtend_ap, kExt_ap, kExt1_some, appF_ok, extF_ok, popF_snoc, mSeq_ap, kSeq_nx, kSeq_rt, kSeq_bk, kSeq_ct, mSkip_ap, mBrk_ap, mCnt_ap, mExpr_ap, kDrop_ap, mRet_ap, kRet_val, kRet_new, kRet_bor, kRetB_fz, kRetB_ow, mRetN_ap, kNx_some, mSet_ap, kSet_ap, setSl_ap, kSS_no, kSS_fz, kSS_ow, kSS_pl, z1, z2, z3, z4, z5, z6, z7, z8, z9, z10, z11, z12, z13, z14, z15, z16, z17, z18, z19, z20, ixF_lst0, ixF_lst1, ixF_lst2, ixF_lst3, ixF_lstm, ixF_tup0, ixF_tup1, ixF_tup2, ixF_tup3, ixF_tupm, ixF_rol0, ixF_rol1, ixF_rol2, ixF_rol3, ixF_rolm, setF_0, setF_1, setF_2, setF_3, putRv_val, putRv_new, putRv_bor, noIo_no, noIo_fz, noIo_ow, mAsg_ap, kAsg_ap, gNm_ap, gTp_ap, gsNil_ap, gsCons_ap, mSt_ap, kSt_val, kSt_new, kSt_bor, mPNil_ap, mPCons_ap, kPC1_ap, mPar_ap, kPar_ap, putN_nil, putN_cons, mAug_ap, kAug_fz, kAug1_ap, mSetIx_ap, kIx_ap, kIx1_some, kIx2_ap, kIx3_some, kIx5_some, kIx4_some, setF_ok, mTurn_ap, kTurn_nx, kTurn_ct, kTurn_bk, kTurn_rt, kWh_t, kWh_f, forF_nil, kFor_some, semFn_ap, kFn_rt, kFn_nx, plain_fz, plain_io, mItems_ap, kIt_val, kIt_new, kIt_bor, kItB_fz, kItB_ow, kItB_io, kSrc_some, items_tup, items_lst, items_rol, mRng_ap, kRn_ap, kR_some, plainArg, val, new, negF, notF, lenF, absF, intF, boolF, max2F, min2F, tupleF, listF, fI, fI0, slF, isL, Rz.rv, eq_self, List.getElem?_cons_succ, List.getElem?_cons_zero, List.set_cons_succ, List.set_cons_zero, Option.map_some, Option.map_none, Option.bind_some, decide_true, decide_false, decide_not, Bool.not_true, Bool.not_false, Bool.true_and, Bool.and_true, Bool.false_and, Bool.and_false, Bool.true_or, Bool.or_true, Bool.false_or, Bool.or_false, List.nil_append, List.cons_append, List.append_nil, List.length_cons, List.length_nil, List.length_append, List.length_map, List.replicate_succ, List.replicate_zero, List.all_cons, List.all_nil, if_true, if_false, ite_true, ite_false, Nat.sub_self, Nat.reduceAdd, Nat.reduceSub, Nat.reduceLeDiff, Nat.reduceLT, List.take_succ_cons, List.take_zero, true_and, and_true, not_true, not_false_eq_true, and_self, List.nodup_nil, List.nodup_cons, List.mem_cons, List.not_mem_nil, or_false, false_or, List.map_cons, List.map_nil, List.map_append, Bool.decide_eq_true, Nat.zero_le, Bool.cond_true, Bool.cond_false, ↓reduceIte, reduceCtorEq, Int.reduceLT, Int.reduceLE, Int.reduceNeg, Int.reduceAdd, Int.reduceMul, Int.reduceSub, Int.reduceEq, Nat.reduceEqDiff, Nat.zero_add, id, decide_eq_true, decide_eq_false, n4], ?_⟩
  · rcases List.mem_append.mp hx with hx | hx
    · rcases List.mem_append.mp hx with hx | hx
      · exact okV_int t x (List.mem_of_mem_take hx)
      · simp only [List.mem_singleton] at hx; subst hx; exact hc
    · exact okV_int t x (List.mem_of_mem_drop hx)
  · have e1 : ((p : Int) + 1).toNat = p + 1 := by omega
    simp -implicitDefEqProofs (disch := first | assumption | (have := szL; omega) | (simp -implicitDefEqProofs only [len_rep, Nat.mul_one, Nat.reduceMul, Int.toNat_natCast, List.length_cons, List.length_nil, List.length_append, List.length_map, List.length_take, List.length_drop, List.length_replicate, noIo_no, noIo_fz, noIo_ow, plain_fz, plain_io, List.all_cons, List.all_nil, Bool.and_true, Bool.true_and, and_self, and_true, true_and, eq_self, ne_eq, not_false_eq_true, reduceCtorEq, Nat.zero_le, Nat.reduceAdd, Nat.zero_add, e1, Int.toNat_natCast]; done) | (simp -implicitDefEqProofs only [len_rep, Nat.mul_one, Nat.reduceMul, Int.toNat_natCast, List.length_cons, List.length_nil, List.length_append, List.length_map, List.length_take, List.length_drop, List.length_replicate, noIo_no, noIo_fz, noIo_ow, plain_fz, plain_io, List.all_cons, List.all_nil, Bool.and_true, Bool.true_and, and_self, and_true, true_and, eq_self, ne_eq, not_false_eq_true, reduceCtorEq, Nat.zero_le, Nat.reduceAdd, Nat.zero_add, e1, Int.toNat_natCast]; have := szL; omega)) only [kR_r1, kR_r2, kR_r3d, intsD, mFor_ap, kForS_ap, addF_ii, addF_tt, addF_ll, addF_ss, mulF_ii, mulF_tt, mulF_ll, subF_ii, ltF_ii, leF_ii, gtF_ii, geF_ii, modF_ii, divF_ii, powF_ii, cutD_lo, cutD_hi, cutD_mid, cutD_m1, mYes_ap, truD, isi_set_int, isi_set_bool, isi_set_tuple, isi_set_list, isi_set_str, isi_set_dict, mLc_ap, allF_f, anyF_f, isi_non_int, isi_bl_int, isi_int_int, isi_str_int, isi_tup_int, isi_lst_int, isi_dK_int, isi_dT_int, isi_non_bool, isi_bl_bool, isi_int_bool, isi_str_bool, isi_tup_bool, isi_lst_bool, isi_dK_bool, isi_dT_bool, isi_non_tuple, isi_bl_tuple, isi_int_tuple, isi_str_tuple, isi_tup_tuple, isi_lst_tuple, isi_dK_tuple, isi_dT_tuple, isi_non_list, isi_bl_list, isi_int_list, isi_str_list, isi_tup_list, isi_lst_list, isi_dK_list, isi_dT_list, isi_non_str, isi_bl_str, isi_int_str, isi_str_str, isi_tup_str, isi_lst_str, isi_dK_str, isi_dT_str, isi_non_dict, isi_bl_dict, isi_int_dict, isi_str_dict, isi_tup_dict, isi_lst_dict, isi_dK_dict, isi_dT_dict, eqF_int, neF_int, eqF_bl, neF_bl, eqF_T, neF_T, eqF_Tm, neF_Tm, bndR_ok, bndR_none, bnd_ap, ret_ap, stuck_ap, mVar_ap, kVar_fz, kVar_ow, kVar_io, mC_ap, content_val, content_new, content_bor, slD_fz, slD_ow, slD_io, rv_f, rv_t, val_eq, new_eq, kRz_some, kRz_none, kP1_some, prim1_ap, kP2_some, prim2_ap, mBin_ap, kBin_ap, kBin2_ap, mUn_ap, kUn_ap, mTest_ap, kTest_ap, mTruth_ap, kTruth_ap, kTru_some, mNotT_ap, kNot_ap, mAndT_ap, mOrT_ap, kAnd_t, kAnd_f, kOr_t, kOr_f, mIf_ap, mIte_ap, kIf_t, kIf_f, mAndV_ap, mOrV_ap, kAndV_t, kAndV_f, kOrV_t, kOrV_f, mChain_ap, kCh1_ap, kCh2_ap, kCh3_ap, kLink_t, kLink_f, mChain3_ap, kC31_ap, kC32_ap, settle_val, settle_new, settle_bor, kSl_fz, kSl_ow, kOk_some, mD_ap, kD_ap, mCons_ap, kCons1_ap, kCons2_ap, mNil_ap, mStar_ap, kStar_ap, kStar1_some, kStar2_ap, mTup_ap, mLst_ap, kTup_ok, kLst_ok, mDict0_ap, mNoPart_ap, mPart_ap, kPart_ap, mSl_ap, kS1_ap, kS2_ap, kS3_ap, kS4_some, mRNil_ap, mRCons_ap, kR1_ap, kR2_ap, contents_nil, contents_cons, kCts_some, mCallB_ap, kCB_ap, kCB1_some, mArg_ap, kArg_f, kArg_val, kArg_new, kArg_bor, kArB_ow, kArB_io, mANil_ap, mACons_ap, kA1_ap, kA2_ap, mCall_ap, kCall_ap, kCall1_some, kFin_ok, owned_ow, owned_io, owned_fz, slsOf_nil, slsOf_pl, slsOf_tp, slsOf_ob, kOb_some, back_nil, back_pl, back_tp, back_ob, obs_nil, obs_pl, obs_tp, obs_ob, tps_nil, tps_pl, tps_tp, tps_ob, setOwn_ap, kSO_ow, kSO_io, mMut_ap, kMut0_some, kMut_some, mHas_ap, kHas_lst, mAppend_ap, kApp_ap, mPop_ap, mExtend_ap, kExt_ap, kExt1_some, appF_ok, extF_ok, popF_snoc, mSeq_ap, kSeq_nx, kSeq_rt, kSeq_bk, kSeq_ct, mSkip_ap, mBrk_ap, mCnt_ap, mExpr_ap, kDrop_ap, mRet_ap, kRet_val, kRet_new, kRet_bor, kRetB_fz, kRetB_ow, mRetN_ap, kNx_some, mSet_ap, kSet_ap, setSl_ap, kSS_no, kSS_fz, kSS_ow, kSS_pl, z1, z2, z3, z4, z5, z6, z7, z8, z9, z10, z11, z12, z13, z14, z15, z16, z17, z18, z19, z20, ixF_lst0, ixF_lst1, ixF_lst2, ixF_lst3, ixF_lstm, ixF_tup0, ixF_tup1, ixF_tup2, ixF_tup3, ixF_tupm, ixF_rol0, ixF_rol1, ixF_rol2, ixF_rol3, ixF_rolm, setF_0, setF_1, setF_2, setF_3, putRv_val, putRv_new, putRv_bor, noIo_no, noIo_fz, noIo_ow, mAsg_ap, kAsg_ap, gNm_ap, gTp_ap, gsNil_ap, gsCons_ap, mSt_ap, kSt_val, kSt_new, kSt_bor, mPNil_ap, mPCons_ap, kPC1_ap, mPar_ap, kPar_ap, putN_nil, putN_cons, mAug_ap, kAug_fz, kAug1_ap, mSetIx_ap, kIx_ap, kIx1_some, kIx2_ap, kIx3_some, kIx5_some, kIx4_some, setF_ok, mTurn_ap, kTurn_nx, kTurn_ct, kTurn_bk, kTurn_rt, kWh_t, kWh_f, forF_nil, kFor_some, semFn_ap, kFn_rt, kFn_nx, plain_fz, plain_io, mItems_ap, kIt_val, kIt_new, kIt_bor, kItB_fz, kItB_ow, kItB_io, kSrc_some, items_tup, items_lst, items_rol, mRng_ap, kRn_ap, kR_some, plainArg, val, new, negF, notF, lenF, absF, intF, boolF, max2F, min2F, tupleF, listF, fI, fI0, slF, isL, Rz.rv, eq_self, List.getElem?_cons_succ, List.getElem?_cons_zero, List.set_cons_succ, List.set_cons_zero, Option.map_some, Option.map_none, Option.bind_some, decide_true, decide_false, decide_not, Bool.not_true, Bool.not_false, Bool.true_and, Bool.and_true, Bool.false_and, Bool.and_false, Bool.true_or, Bool.or_true, Bool.false_or, Bool.or_false, List.nil_append, List.cons_append, List.append_nil, List.length_cons, List.length_nil, List.length_append, List.length_map, List.replicate_succ, List.replicate_zero, List.all_cons, List.all_nil, if_true, if_false, ite_true, ite_false, Nat.sub_self, Nat.reduceAdd, Nat.reduceSub, Nat.reduceLeDiff, Nat.reduceLT, List.take_succ_cons, List.take_zero, true_and, and_true, not_true, not_false_eq_true, and_self, List.nodup_nil, List.nodup_cons, List.mem_cons, List.not_mem_nil, or_false, false_or, List.map_cons, List.map_nil, List.map_append, Bool.decide_eq_true, Nat.zero_le, Bool.cond_true, Bool.cond_false, ↓reduceIte, reduceCtorEq, Int.reduceLT, Int.reduceLE, Int.reduceNeg, Int.reduceAdd, Int.reduceMul, Int.reduceSub, Int.reduceEq, Nat.reduceEqDiff, Nat.zero_add, id, decide_eq_true, decide_eq_false, w__law_near_values_1_ap, e1, Int.toNat_natCast]
def okL (l : List D) : Prop := ∀ x ∈ l, okV x
def okA (l : List D) : Prop := ∀ x ∈ l, okW x
theorem okL_app {a b : List D} : okL (a ++ b) = (okL a ∧ okL b) := propext List.forall_mem_append
theorem okA_app {a b : List D} : okA (a ++ b) = (okA a ∧ okA b) := propext List.forall_mem_append
theorem okL_cons {a : D} {b : List D} : okL (a :: b) = (okV a ∧ okL b) := propext List.forall_mem_cons
theorem okA_cons {a : D} {b : List D} : okA (a :: b) = (okW a ∧ okA b) := propext List.forall_mem_cons
theorem okL_nil : okL [] = True := eq_true nofun
theorem okA_nil : okA [] = True := eq_true nofun
theorem okL_ints {t : List Int} : okL (t.map .int) = True := eq_true (okV_int t)
theorem okL_take {t : List Int} {n : Nat} : okL ((t.map .int).take n) = True := eq_true fun x hx => okV_int t x (List.mem_of_mem_take hx)
theorem okL_drop {t : List Int} {n : Nat} : okL ((t.map .int).drop n) = True := eq_true fun x hx => okV_int t x (List.mem_of_mem_drop hx)
theorem okL_rep {a : D} {n : Nat} (h : okV a = True) : okL (List.replicate n a) = True := eq_true fun x hx => by rw [List.eq_of_mem_replicate hx]; exact of_eq_true h
theorem okL_flat {a : List D} {n : Nat} (h : okL a = True) : okL (List.replicate n a).flatten = True := eq_true fun x hx => by
  obtain ⟨l, hl, hx⟩ := List.mem_flatten.mp hx
  rw [List.eq_of_mem_replicate hl] at hx
  exact of_eq_true h x hx
theorem okW_tup {ds : List D} : okW (.tup ds) = okL ds := propext ⟨fun h => h.2 ds rfl, fun h => okW.tup h⟩
theorem okW_lst {ds : List D} : okW (.lst ds) = True := eq_true .lst
theorem okW_int {i : Int} : okW (.int i) = True := eq_true .int
theorem okW_bl {i : Bool} : okW (.bl i) = True := eq_true .bl
theorem okW_str {i : Str} : okW (.str i) = True := eq_true .str
theorem okW_non : okW .non = True := eq_true .non
theorem okW_dK {m} : okW (.dK m) = True := eq_true .dK
theorem okV_i {i : Int} : okV (.int i) = True := eq_true ⟨_, rfl⟩
theorem okV_t {i} : okV (.tup i) = True := eq_true ⟨_, rfl⟩
def nearC (r : Int) : List D := [.int (-2), .int (-1), .int 0, .int 1, .int 1000, .int 1001, .bl true, .bl false, .non, .str "1", .int (10 ^ 61), .tup [.int 1], .int (1 + r)]
theorem near_ok {t : List Int} (ht : t.length ≤ 400) (h1 : 1 ≤ t.length) {d : D} (hD : Dice d) : ∃ vs d', Dice d' ∧ (∀ v ∈ vs, okW v) ∧ vs.length ≤ 100 ∧ s__law_near_values [.io d, .fz (.tup (t.map .int))] = some (.ok (true, .lst vs) [.io d', .fz (.tup (t.map .int))]) := by
  obtain ⟨r1, d1, hD1, a1, b1, e1⟩ := roll_ok hD (n := t.length) (by omega) (by omega)
  obtain ⟨r9, d2, hD2, a2, b2, e2⟩ := roll_ok hD1 (n := 9) (by omega) (by omega)
  obtain ⟨p, rfl⟩ : ∃ p : Nat, r1 = p := ⟨r1.toNat, by omega⟩
  have c61 : CPowA 10 61 := by decide +kernel
  have p61 : (61 : Int).toNat = 61 := rfl
  have ok1 : ∀ v ∈ ([.tup (t.map .int), .lst (t.map .int), .tup [.tup (t.map .int)], .tup ((t.map .int).drop 1), .tup ((t.map .int).take (t.length - 1)), .tup (t.map .int ++ [.int 1]), .tup (.int 0 :: t.map .int)] : List D), okW v := by
    show okA _
    simp only [okL_app, okA_app, okL_cons, okA_cons, okL_nil, okA_nil, okL_ints, okL_take, okL_drop, okW_tup, okW_lst, okW_int, okW_bl, okW_str, okW_non, okW_dK, okV_i, okV_t, and_self, and_true]
  obtain ⟨e, q1, vs, s4, l4, ov, p4, rfl⟩ := forF_inv (g := gNm 4) (b := w__law_near_values_1) (ds := nearC r9) (k := 0) (env := [.io d2, .fz (.tup (t.map .int)), .fz (.int p), .ow (.lst _), .no]) (I := fun k e => ∃ vs s4, vs.length = 7 + k ∧ (∀ v ∈ vs, okW v) ∧ isPl s4 = true ∧ e = [.io d2, .fz (.tup (t.map .int)), .fz (.int p), .ow (.lst vs), s4]) ⟨_, .no, by rfl, ok1, rfl, rfl⟩ fun j e hj ⟨vs, s4, lv, ov, p4, he⟩ => by
    subst he
    have hj' : j < 13 := hj
    obtain ⟨e1, v, h1, h2, h3⟩ := near_step ht ov (by omega) p4 (d := d2) (p := p) (c := (nearC r9)[j]) (by
      have : ∀ c ∈ nearC r9, okV c := fun c hc => by
        simp only [nearC, List.mem_cons, List.not_mem_nil, or_false] at hc
        rcases hc with h | h | h | h | h | h | h | h | h | h | h | h | h <;> subst h <;> exact ⟨_, rfl⟩
      exact this _ (List.getElem_mem _))
    refine ⟨e1, _, h2, h3, vs ++ [v], _, by simp [lv]; omega, fun x hx => ?_, rfl, rfl⟩
    rcases List.mem_append.mp hx with hx | hx
    · exact ov x hx
    · simp only [List.mem_singleton] at hx; subst hx; exact h1
  have lv : vs.length = 20 := l4
  simp only [nearC] at q1
  have n4 := noIo_pl p4
  have z0 : (0 : Int) ≤ (p : Int) := by omega
  have e3 : ((p : Int) + 1).toNat = p + 1 := by omega
  have e4 : (1 : Int).toNat = 1 := rfl
  have ov' : okA vs := ov
  refine ⟨vs ++ [.tup ((t.map .int).take p ++ (t.map .int).drop (p + 1)), .tup ((t.map .int).take p ++ [.int 0] ++ (t.map .int).drop p), .tup ([.int (-1)] ++ t.map .int), .tup (t.map .int ++ t.map .int)] ++ [.tup ([.int 0] ++ t.map .int ++ t.map .int)] ++ [.tup [], .non, .int 0, .str "term", .dK [], .lst [], .tup [.int 1], .tup [.int (-1)], .tup [.int 0], .tup [.int 0, .int 1]], d2, hD2, ?_, by simp [lv], ?_⟩
  · show okA _
    simp only [ov', okL_app, okA_app, okL_cons, okA_cons, okL_nil, okA_nil, okL_ints, okL_take, okL_drop, okW_tup, okW_lst, okW_int, okW_bl, okW_str, okW_non, okW_dK, okV_i, okV_t, and_self, and_true]
  ·
    simp -implicitDefEqProofs (disch := first | assumption | (have := szL; omega) | (simp -implicitDefEqProofs only [len_rep, Nat.mul_one, Nat.reduceMul, Int.toNat_natCast, List.length_cons, List.length_nil, List.length_append, List.length_map, List.length_take, List.length_drop, List.length_replicate, noIo_no, noIo_fz, noIo_ow, plain_fz, plain_io, List.all_cons, List.all_nil, Bool.and_true, Bool.true_and, and_self, and_true, true_and, eq_self, ne_eq, not_false_eq_true, reduceCtorEq, Nat.zero_le, Nat.reduceAdd, Nat.zero_add, e1, e2, q1, c61, p61, lv, e3, e4, Int.toNat_natCast, listF, items_tup, appF_ok]; done) | (simp -implicitDefEqProofs only [len_rep, Nat.mul_one, Nat.reduceMul, Int.toNat_natCast, List.length_cons, List.length_nil, List.length_append, List.length_map, List.length_take, List.length_drop, List.length_replicate, noIo_no, noIo_fz, noIo_ow, plain_fz, plain_io, List.all_cons, List.all_nil, Bool.and_true, Bool.true_and, and_self, and_true, true_and, eq_self, ne_eq, not_false_eq_true, reduceCtorEq, Nat.zero_le, Nat.reduceAdd, Nat.zero_add, e1, e2, q1, c61, p61, lv, e3, e4, Int.toNat_natCast, listF, items_tup, appF_ok]; have := szL; omega)) only [kR_r1, kR_r2, kR_r3d, intsD, mFor_ap, kForS_ap, addF_ii, addF_tt, addF_ll, addF_ss, mulF_ii, mulF_tt, mulF_ll, subF_ii, ltF_ii, leF_ii, gtF_ii, geF_ii, modF_ii, divF_ii, powF_ii, cutD_lo, cutD_hi, cutD_mid, cutD_m1, mYes_ap, truD, isi_set_int, isi_set_bool, isi_set_tuple, isi_set_list, isi_set_str, isi_set_dict, mLc_ap, allF_f, anyF_f, isi_non_int, isi_bl_int, isi_int_int, isi_str_int, isi_tup_int, isi_lst_int, isi_dK_int, isi_dT_int, isi_non_bool, isi_bl_bool, isi_int_bool, isi_str_bool, isi_tup_bool, isi_lst_bool, isi_dK_bool, isi_dT_bool, isi_non_tuple, isi_bl_tuple, isi_int_tuple, isi_str_tuple, isi_tup_tuple, isi_lst_tuple, isi_dK_tuple, isi_dT_tuple, isi_non_list, isi_bl_list, isi_int_list, isi_str_list, isi_tup_list, isi_lst_list, isi_dK_list, isi_dT_list, isi_non_str, isi_bl_str, isi_int_str, isi_str_str, isi_tup_str, isi_lst_str, isi_dK_str, isi_dT_str, isi_non_dict, isi_bl_dict, isi_int_dict, isi_str_dict, isi_tup_dict, isi_lst_dict, isi_dK_dict, isi_dT_dict, eqF_int, neF_int, eqF_bl, neF_bl, eqF_T, neF_T, eqF_Tm, neF_Tm, bndR_ok, bndR_none, bnd_ap, ret_ap, stuck_ap, mVar_ap, kVar_fz, kVar_ow, kVar_io, mC_ap, content_val, content_new, content_bor, slD_fz, slD_ow, slD_io, rv_f, rv_t, val_eq, new_eq, kRz_some, kRz_none, kP1_some, prim1_ap, kP2_some, prim2_ap, mBin_ap, kBin_ap, kBin2_ap, mUn_ap, kUn_ap, mTest_ap, kTest_ap, mTruth_ap, kTruth_ap, kTru_some, mNotT_ap, kNot_ap, mAndT_ap, mOrT_ap, kAnd_t, kAnd_f, kOr_t, kOr_f, mIf_ap, mIte_ap, kIf_t, kIf_f, mAndV_ap, mOrV_ap, kAndV_t, kAndV_f, kOrV_t, kOrV_f, mChain_ap, kCh1_ap, kCh2_ap, kCh3_ap, kLink_t, kLink_f, mChain3_ap, kC31_ap, kC32_ap, settle_val, settle_new, settle_bor, kSl_fz, kSl_ow, kOk_some, mD_ap, kD_ap, mCons_ap, kCons1_ap, kCons2_ap, mNil_ap, mStar_ap, kStar_ap, kStar1_some, kStar2_ap, mTup_ap, mLst_ap, kTup_ok, kLst_ok, mDict0_ap, mNoPart_ap, mPart_ap, kPart_ap, mSl_ap, kS1_ap, kS2_ap, kS3_ap, kS4_some, mRNil_ap, mRCons_ap, kR1_ap, kR2_ap, contents_nil, contents_cons, kCts_some, mCallB_ap, kCB_ap, kCB1_some, mArg_ap, kArg_f, kArg_val, kArg_new, kArg_bor, kArB_ow, kArB_io, mANil_ap, mACons_ap, kA1_ap, kA2_ap, mCall_ap, kCall_ap, kCall1_some, kFin_ok, owned_ow, owned_io, owned_fz, slsOf_nil, slsOf_pl, slsOf_tp, slsOf_ob, kOb_some, back_nil, back_pl, back_tp, back_ob, obs_nil, obs_pl, obs_tp, obs_ob, tps_nil, tps_pl, tps_tp, tps_ob, setOwn_ap, kSO_ow, kSO_io, mMut_ap, kMut0_some, kMut_some, mHas_ap, kHas_lst, mAppend_ap, kApp_ap, mPop_ap, mExtend_ap, kExt_ap, kExt1_some, appF_ok, extF_ok, popF_snoc, mSeq_ap, kSeq_nx, kSeq_rt, kSeq_bk, kSeq_ct, mSkip_ap, mBrk_ap, mCnt_ap, mExpr_ap, kDrop_ap, mRet_ap, kRet_val, kRet_new, kRet_bor, kRetB_fz, kRetB_ow, mRetN_ap, kNx_some, mSet_ap, kSet_ap, setSl_ap, kSS_no, kSS_fz, kSS_ow, kSS_pl, z1, z2, z3, z4, z5, z6, z7, z8, z9, z10, z11, z12, z13, z14, z15, z16, z17, z18, z19, z20, ixF_lst0, ixF_lst1, ixF_lst2, ixF_lst3, ixF_lstm, ixF_tup0, ixF_tup1, ixF_tup2, ixF_tup3, ixF_tupm, ixF_rol0, ixF_rol1, ixF_rol2, ixF_rol3, ixF_rolm, setF_0, setF_1, setF_2, setF_3, putRv_val, putRv_new, putRv_bor, noIo_no, noIo_fz, noIo_ow, mAsg_ap, kAsg_ap, gNm_ap, gTp_ap, gsNil_ap, gsCons_ap, mSt_ap, kSt_val, kSt_new, kSt_bor, mPNil_ap, mPCons_ap, kPC1_ap, mPar_ap, kPar_ap, putN_nil, putN_cons, mAug_ap, kAug_fz, kAug1_ap, mSetIx_ap, kIx_ap, kIx1_some, kIx2_ap, kIx3_some, kIx5_some, kIx4_some, setF_ok, mTurn_ap, kTurn_nx, kTurn_ct, kTurn_bk, kTurn_rt, kWh_t, kWh_f, forF_nil, kFor_some, semFn_ap, kFn_rt, kFn_nx, plain_fz, plain_io, mItems_ap, kIt_val, kIt_new, kIt_bor, kItB_fz, kItB_ow, kItB_io, kSrc_some, items_tup, items_lst, items_rol, mRng_ap, kRn_ap, kR_some, plainArg, val, new, negF, notF, lenF, absF, intF, boolF, max2F, min2F, tupleF, listF, fI, fI0, slF, isL, Rz.rv, eq_self, List.getElem?_cons_succ, List.getElem?_cons_zero, List.set_cons_succ, List.set_cons_zero, Option.map_some, Option.map_none, Option.bind_some, decide_true, decide_false, decide_not, Bool.not_true, Bool.not_false, Bool.true_and, Bool.and_true, Bool.false_and, Bool.and_false, Bool.true_or, Bool.or_true, Bool.false_or, Bool.or_false, List.nil_append, List.cons_append, List.append_nil, List.length_cons, List.length_nil, List.length_append, List.length_map, List.replicate_succ, List.replicate_zero, List.all_cons, List.all_nil, if_true, if_false, ite_true, ite_false, Nat.sub_self, Nat.reduceAdd, Nat.reduceSub, Nat.reduceLeDiff, Nat.reduceLT, List.take_succ_cons, List.take_zero, true_and, and_true, not_true, not_false_eq_true, and_self, List.nodup_nil, List.nodup_cons, List.mem_cons, List.not_mem_nil, or_false, false_or, List.map_cons, List.map_nil, List.map_append, Bool.decide_eq_true, Nat.zero_le, Bool.cond_true, Bool.cond_false, ↓reduceIte, reduceCtorEq, Int.reduceLT, Int.reduceLE, Int.reduceNeg, Int.reduceAdd, Int.reduceMul, Int.reduceSub, Int.reduceEq, Nat.reduceEqDiff, Nat.zero_add, id, decide_eq_true, decide_eq_false, s__law_near_values, b__law_near_values, e1, e2, q1, c61, p61, lv, e3, e4, Int.toNat_natCast, listF, items_tup, appF_ok]
end PL

namespace PL
open PySem L2
theorem long_ok {d : D} (hD : Dice d) : ∃ vs d', Dice d' ∧ okA vs ∧ vs.length ≤ 100 ∧ s__law_long_values [.io d] = some (.ok (true, .lst vs) [.io d']) := by
  obtain ⟨r, d1, hD1, a1, b1, e1⟩ := roll_ok hD (n := 6) (by omega) (by omega)
  have c2 : ∀ x, CDivA x 2 := fun x => cdivA_small (by decide) (by decide)
  have c3 : ∀ x, CDivA x 3 := fun x => cdivA_small (by decide) (by decide)
  refine ⟨?vs, d1, hD1, ?a, ?l, ?g⟩
  case g =>
    simp -implicitDefEqProofs (disch := first | assumption | (have := szL; omega) | (simp -implicitDefEqProofs only [len_rep, Nat.mul_one, Nat.reduceMul, Int.toNat_natCast, List.length_cons, List.length_nil, List.length_append, List.length_map, List.length_take, List.length_drop, List.length_replicate, noIo_no, noIo_fz, noIo_ow, plain_fz, plain_io, List.all_cons, List.all_nil, Bool.and_true, Bool.true_and, and_self, and_true, true_and, eq_self, ne_eq, not_false_eq_true, reduceCtorEq, Nat.zero_le, Nat.reduceAdd, Nat.zero_add, e1, c2, c3]; done) | (simp -implicitDefEqProofs only [len_rep, Nat.mul_one, Nat.reduceMul, Int.toNat_natCast, List.length_cons, List.length_nil, List.length_append, List.length_map, List.length_take, List.length_drop, List.length_replicate, noIo_no, noIo_fz, noIo_ow, plain_fz, plain_io, List.all_cons, List.all_nil, Bool.and_true, Bool.true_and, and_self, and_true, true_and, eq_self, ne_eq, not_false_eq_true, reduceCtorEq, Nat.zero_le, Nat.reduceAdd, Nat.zero_add, e1, c2, c3]; have := szL; omega)) only [kR_r1, kR_r2, kR_r3d, intsD, mFor_ap, kForS_ap, addF_ii, addF_tt, addF_ll, addF_ss, mulF_ii, mulF_tt, mulF_ll, subF_ii, ltF_ii, leF_ii, gtF_ii, geF_ii, modF_ii, divF_ii, powF_ii, cutD_lo, cutD_hi, cutD_mid, cutD_m1, mYes_ap, truD, isi_set_int, isi_set_bool, isi_set_tuple, isi_set_list, isi_set_str, isi_set_dict, mLc_ap, allF_f, anyF_f, isi_non_int, isi_bl_int, isi_int_int, isi_str_int, isi_tup_int, isi_lst_int, isi_dK_int, isi_dT_int, isi_non_bool, isi_bl_bool, isi_int_bool, isi_str_bool, isi_tup_bool, isi_lst_bool, isi_dK_bool, isi_dT_bool, isi_non_tuple, isi_bl_tuple, isi_int_tuple, isi_str_tuple, isi_tup_tuple, isi_lst_tuple, isi_dK_tuple, isi_dT_tuple, isi_non_list, isi_bl_list, isi_int_list, isi_str_list, isi_tup_list, isi_lst_list, isi_dK_list, isi_dT_list, isi_non_str, isi_bl_str, isi_int_str, isi_str_str, isi_tup_str, isi_lst_str, isi_dK_str, isi_dT_str, isi_non_dict, isi_bl_dict, isi_int_dict, isi_str_dict, isi_tup_dict, isi_lst_dict, isi_dK_dict, isi_dT_dict, eqF_int, neF_int, eqF_bl, neF_bl, eqF_T, neF_T, eqF_Tm, neF_Tm, bndR_ok, bndR_none, bnd_ap, ret_ap, stuck_ap, mVar_ap, kVar_fz, kVar_ow, kVar_io, mC_ap, content_val, content_new, content_bor, slD_fz, slD_ow, slD_io, rv_f, rv_t, val_eq, new_eq, kRz_some, kRz_none, kP1_some, prim1_ap, kP2_some, prim2_ap, mBin_ap, kBin_ap, kBin2_ap, mUn_ap, kUn_ap, mTest_ap, kTest_ap, mTruth_ap, kTruth_ap, kTru_some, mNotT_ap, kNot_ap, mAndT_ap, mOrT_ap, kAnd_t, kAnd_f, kOr_t, kOr_f, mIf_ap, mIte_ap, kIf_t, kIf_f, mAndV_ap, mOrV_ap, kAndV_t, kAndV_f, kOrV_t, kOrV_f, mChain_ap, kCh1_ap, kCh2_ap, kCh3_ap, kLink_t, kLink_f, mChain3_ap, kC31_ap, kC32_ap, settle_val, settle_new, settle_bor, kSl_fz, kSl_ow, kOk_some, mD_ap, kD_ap, mCons_ap, kCons1_ap, kCons2_ap, mNil_ap, mStar_ap, kStar_ap, kStar1_some, kStar2_ap, mTup_ap, mLst_ap, kTup_ok, kLst_ok, mDict0_ap, mNoPart_ap, mPart_ap, kPart_ap, mSl_ap, kS1_ap, kS2_ap, kS3_ap, kS4_some, mRNil_ap, mRCons_ap, kR1_ap, kR2_ap, contents_nil, contents_cons, kCts_some, mCallB_ap, kCB_ap, kCB1_some, mArg_ap, kArg_f, kArg_val, kArg_new, kArg_bor, kArB_ow, kArB_io, mANil_ap, mACons_ap, kA1_ap, kA2_ap, mCall_ap, kCall_ap, kCall1_some, kFin_ok, owned_ow, owned_io, owned_fz, slsOf_nil, slsOf_pl, slsOf_tp, slsOf_ob, kOb_some, back_nil, back_pl, back_tp, back_ob, obs_nil, obs_pl, obs_tp, obs_ob, tps_nil, tps_pl, tps_tp, tps_ob, setOwn_ap, kSO_ow, kSO_io, mMut_ap, kMut0_some, kMut_some, mHas_ap, kHas_lst, mAppend_ap, kApp_ap, mPop_ap, mExtend_ap, kExt_ap, kExt1_some, appF_ok, extF_ok, popF_snoc, mSeq_ap, kSeq_nx, kSeq_rt, kSeq_bk, kSeq_ct, mSkip_ap, mBrk_ap, mCnt_ap, mExpr_ap, kDrop_ap, mRet_ap, kRet_val, kRet_new, kRet_bor, kRetB_fz, kRetB_ow, mRetN_ap, kNx_some, mSet_ap, kSet_ap, setSl_ap, kSS_no, kSS_fz, kSS_ow, kSS_pl, z1, z2, z3, z4, z5, z6, z7, z8, z9, z10, z11, z12, z13, z14, z15, z16, z17, z18, z19, z20, ixF_lst0, ixF_lst1, ixF_lst2, ixF_lst3, ixF_lstm, ixF_tup0, ixF_tup1, ixF_tup2, ixF_tup3, ixF_tupm, ixF_rol0, ixF_rol1, ixF_rol2, ixF_rol3, ixF_rolm, setF_0, setF_1, setF_2, setF_3, putRv_val, putRv_new, putRv_bor, noIo_no, noIo_fz, noIo_ow, mAsg_ap, kAsg_ap, gNm_ap, gTp_ap, gsNil_ap, gsCons_ap, mSt_ap, kSt_val, kSt_new, kSt_bor, mPNil_ap, mPCons_ap, kPC1_ap, mPar_ap, kPar_ap, putN_nil, putN_cons, mAug_ap, kAug_fz, kAug1_ap, mSetIx_ap, kIx_ap, kIx1_some, kIx2_ap, kIx3_some, kIx5_some, kIx4_some, setF_ok, mTurn_ap, kTurn_nx, kTurn_ct, kTurn_bk, kTurn_rt, kWh_t, kWh_f, forF_nil, kFor_some, semFn_ap, kFn_rt, kFn_nx, plain_fz, plain_io, mItems_ap, kIt_val, kIt_new, kIt_bor, kItB_fz, kItB_ow, kItB_io, kSrc_some, items_tup, items_lst, items_rol, mRng_ap, kRn_ap, kR_some, plainArg, val, new, negF, notF, lenF, absF, intF, boolF, max2F, min2F, tupleF, listF, fI, fI0, slF, isL, Rz.rv, eq_self, List.getElem?_cons_succ, List.getElem?_cons_zero, List.set_cons_succ, List.set_cons_zero, Option.map_some, Option.map_none, Option.bind_some, decide_true, decide_false, decide_not, Bool.not_true, Bool.not_false, Bool.true_and, Bool.and_true, Bool.false_and, Bool.and_false, Bool.true_or, Bool.or_true, Bool.false_or, Bool.or_false, List.nil_append, List.cons_append, List.append_nil, List.length_cons, List.length_nil, List.length_append, List.length_map, List.replicate_succ, List.replicate_zero, List.all_cons, List.all_nil, if_true, if_false, ite_true, ite_false, Nat.sub_self, Nat.reduceAdd, Nat.reduceSub, Nat.reduceLeDiff, Nat.reduceLT, List.take_succ_cons, List.take_zero, true_and, and_true, not_true, not_false_eq_true, and_self, List.nodup_nil, List.nodup_cons, List.mem_cons, List.not_mem_nil, or_false, false_or, List.map_cons, List.map_nil, List.map_append, Bool.decide_eq_true, Nat.zero_le, Bool.cond_true, Bool.cond_false, ↓reduceIte, reduceCtorEq, Int.reduceLT, Int.reduceLE, Int.reduceNeg, Int.reduceAdd, Int.reduceMul, Int.reduceSub, Int.reduceEq, Nat.reduceEqDiff, Nat.zero_add, id, decide_eq_true, decide_eq_false, s__law_long_values, b__law_long_values, e1, c2, c3]
    rfl
  case a => simp only [okL_app, okA_app, okL_cons, okA_cons, okL_nil, okA_nil, okL_flat, okW_tup, okV_i, okV_t, and_self, and_true]
  case l => simp
end PL

namespace PL
open PySem L2
theorem prt_sub {t : List Int} {p : Nat} {c : Int} (h : c ∈ prt t p) : c ∈ t := List.mem_of_mem_drop (List.mem_of_mem_take h)
theorem prt_Trm {t : List Int} {p : Nat} (ht : Trm t) (hp : p < t.length) : Trm (prt t p) where
  shape := prt_shp ht.shape hp
  codes c hc := ht.codes c (prt_sub hc)
  len := by have := ht.len; unfold prt; simp; omega
theorem prt_map (t : List Int) (p : Nat) : ((t.map D.int).drop p).take (pend t p - p) = (prt t p).map .int := by
  unfold prt
  rw [List.map_take, List.map_drop]
theorem right_1 {t : List Int} {d : D} {s2 : Sl} (h2 : isPl s2 = true) {v : D} (hv : okW v) :
    ∃ e1, gNm 2 v [.io d, .fz (.tup (t.map .int)), s2, .no, .no, .no, .no, .no] = some e1 ∧ w__law_right_1 e1 = some (.ok .nx [.io d, .fz (.tup (t.map .int)), .fz v, .no, .no, .no, .no, .no]) := by
  have n2 := noIo_pl h2
  have w1 := is_term_ok hv.1 hv.2
  have w2 := law_is_term_ok hv.1 hv.2
  refine ⟨[.io d, .fz (.tup (t.map .int)), .fz v, .no, .no, .no, .no, .no], by simp -implicitDefEqProofs (disch := first | assumption | (have := szL; omega) | (simp -implicitDefEqProofs only [len_rep, Nat.mul_one, Nat.reduceMul, Int.toNat_natCast, List.length_cons, List.length_nil, List.length_append, List.length_map, List.length_take, List.length_drop, List.length_replicate, noIo_no, noIo_fz, noIo_ow, plain_fz, plain_io, List.all_cons, List.all_nil, Bool.and_true, Bool.true_and, and_self, and_true, true_and, eq_self, ne_eq, not_false_eq_true, reduceCtorEq, Nat.zero_le, Nat.reduceAdd, Nat.zero_add, n2]; done) | (simp -implicitDefEqProofs only [len_rep, Nat.mul_one, Nat.reduceMul, Int.toNat_natCast, List.length_cons, List.length_nil, List.length_append, List.length_map, List.length_take, List.length_drop, List.length_replicate, noIo_no, noIo_fz, noIo_ow, plain_fz, plain_io, List.all_cons, List.all_nil, Bool.and_true, Bool.true_and, and_self, and_true, true_and, eq_self, ne_eq, not_false_eq_true, reduceCtorEq, Nat.zero_le, Nat.reduceAdd, Nat.zero_add, n2]; have := szL; omega)) only [kR_r1, kR_r2, kR_r3d, intsD, mFor_ap, kForS_ap, addF_ii, addF_tt, addF_ll, addF_ss, mulF_ii, mulF_tt, mulF_ll, subF_ii, ltF_ii, leF_ii, gtF_ii, geF_ii, modF_ii, divF_ii, powF_ii, cutD_lo, cutD_hi, cutD_mid, cutD_m1, mYes_ap, truD, isi_set_int, isi_set_bool, isi_set_tuple, isi_set_list, isi_set_str, isi_set_dict, mLc_ap, allF_f, anyF_f, isi_non_int, isi_bl_int, isi_int_int, isi_str_int, isi_tup_int, isi_lst_int, isi_dK_int, isi_dT_int, isi_non_bool, isi_bl_bool, isi_int_bool, isi_str_bool, isi_tup_bool, isi_lst_bool, isi_dK_bool, isi_dT_bool, isi_non_tuple, isi_bl_tuple, isi_int_tuple, isi_str_tuple, isi_tup_tuple, isi_lst_tuple, isi_dK_tuple, isi_dT_tuple, isi_non_list, isi_bl_list, isi_int_list, isi_str_list, isi_tup_list, isi_lst_list, isi_dK_list, isi_dT_list, isi_non_str, isi_bl_str, isi_int_str, isi_str_str, isi_tup_str, isi_lst_str, isi_dK_str, isi_dT_str, isi_non_dict, isi_bl_dict, isi_int_dict, isi_str_dict, isi_tup_dict, isi_lst_dict, isi_dK_dict, isi_dT_dict, eqF_int, neF_int, eqF_bl, neF_bl, eqF_T, neF_T, eqF_Tm, neF_Tm, bndR_ok, bndR_none, bnd_ap, ret_ap, stuck_ap, mVar_ap, kVar_fz, kVar_ow, kVar_io, mC_ap, content_val, content_new, content_bor, slD_fz, slD_ow, slD_io, rv_f, rv_t, val_eq, new_eq, kRz_some, kRz_none, kP1_some, prim1_ap, kP2_some, prim2_ap, mBin_ap, kBin_ap, kBin2_ap, mUn_ap, kUn_ap, mTest_ap, kTest_ap, mTruth_ap, kTruth_ap, kTru_some, mNotT_ap, kNot_ap, mAndT_ap, mOrT_ap, kAnd_t, kAnd_f, kOr_t, kOr_f, mIf_ap, mIte_ap, kIf_t, kIf_f, mAndV_ap, mOrV_ap, kAndV_t, kAndV_f, kOrV_t, kOrV_f, mChain_ap, kCh1_ap, kCh2_ap, kCh3_ap, kLink_t, kLink_f, mChain3_ap, kC31_ap, kC32_ap, settle_val, settle_new, settle_bor, kSl_fz, kSl_ow, kOk_some, mD_ap, kD_ap, mCons_ap, kCons1_ap, kCons2_ap, mNil_ap, mStar_ap, kStar_ap, kStar1_some, kStar2_ap, mTup_ap, mLst_ap, kTup_ok, kLst_ok, mDict0_ap, mNoPart_ap, mPart_ap, kPart_ap, mSl_ap, kS1_ap, kS2_ap, kS3_ap, kS4_some, mRNil_ap, mRCons_ap, kR1_ap, kR2_ap, contents_nil, contents_cons, kCts_some, mCallB_ap, kCB_ap, kCB1_some, mArg_ap, kArg_f, kArg_val, kArg_new, kArg_bor, kArB_ow, kArB_io, mANil_ap, mACons_ap, kA1_ap, kA2_ap, mCall_ap, kCall_ap, kCall1_some, kFin_ok, owned_ow, owned_io, owned_fz, slsOf_nil, slsOf_pl, slsOf_tp, slsOf_ob, kOb_some, back_nil, back_pl, back_tp, back_ob, obs_nil, obs_pl, obs_tp, obs_ob, tps_nil, tps_pl, tps_tp, tps_ob, setOwn_ap, kSO_ow, kSO_io, mMut_ap, kMut0_some, kMut_some, mHas_ap, kHas_lst, mAppend_ap, kApp_ap, mPop_ap, mExtend_ap, kExt_ap, kExt1_some, appF_ok, extF_ok, popF_snoc, mSeq_ap, kSeq_nx, kSeq_rt, kSeq_bk, kSeq_ct, mSkip_ap, mBrk_ap, mCnt_ap, mExpr_ap, kDrop_ap, mRet_ap, kRet_val, kRet_new, kRet_bor, kRetB_fz, kRetB_ow, mRetN_ap, kNx_some, mSet_ap, kSet_ap, setSl_ap, kSS_no, kSS_fz, kSS_ow, kSS_pl, z1, z2, z3, z4, z5, z6, z7, z8, z9, z10, z11, z12, z13, z14, z15, z16, z17, z18, z19, z20, ixF_lst0, ixF_lst1, ixF_lst2, ixF_lst3, ixF_lstm, ixF_tup0, ixF_tup1, ixF_tup2, ixF_tup3, ixF_tupm, ixF_rol0, ixF_rol1, ixF_rol2, ixF_rol3, ixF_rolm, setF_0, setF_1, setF_2, setF_3, putRv_val, putRv_new, putRv_bor, noIo_no, noIo_fz, noIo_ow, mAsg_ap, kAsg_ap, gNm_ap, gTp_ap, gsNil_ap, gsCons_ap, mSt_ap, kSt_val, kSt_new, kSt_bor, mPNil_ap, mPCons_ap, kPC1_ap, mPar_ap, kPar_ap, putN_nil, putN_cons, mAug_ap, kAug_fz, kAug1_ap, mSetIx_ap, kIx_ap, kIx1_some, kIx2_ap, kIx3_some, kIx5_some, kIx4_some, setF_ok, mTurn_ap, kTurn_nx, kTurn_ct, kTurn_bk, kTurn_rt, kWh_t, kWh_f, forF_nil, kFor_some, semFn_ap, kFn_rt, kFn_nx, plain_fz, plain_io, mItems_ap, kIt_val, kIt_new, kIt_bor, kItB_fz, kItB_ow, kItB_io, kSrc_some, items_tup, items_lst, items_rol, mRng_ap, kRn_ap, kR_some, plainArg, val, new, negF, notF, lenF, absF, intF, boolF, max2F, min2F, tupleF, listF, fI, fI0, slF, isL, Rz.rv, eq_self, List.getElem?_cons_succ, List.getElem?_cons_zero, List.set_cons_succ, List.set_cons_zero, Option.map_some, Option.map_none, Option.bind_some, decide_true, decide_false, decide_not, Bool.not_true, Bool.not_false, Bool.true_and, Bool.and_true, Bool.false_and, Bool.and_false, Bool.true_or, Bool.or_true, Bool.false_or, Bool.or_false, List.nil_append, List.cons_append, List.append_nil, List.length_cons, List.length_nil, List.length_append, List.length_map, List.replicate_succ, List.replicate_zero, List.all_cons, List.all_nil, if_true, if_false, ite_true, ite_false, Nat.sub_self, Nat.reduceAdd, Nat.reduceSub, Nat.reduceLeDiff, Nat.reduceLT, List.take_succ_cons, List.take_zero, true_and, and_true, not_true, not_false_eq_true, and_self, List.nodup_nil, List.nodup_cons, List.mem_cons, List.not_mem_nil, or_false, false_or, List.map_cons, List.map_nil, List.map_append, Bool.decide_eq_true, Nat.zero_le, Bool.cond_true, Bool.cond_false, ↓reduceIte, reduceCtorEq, Int.reduceLT, Int.reduceLE, Int.reduceNeg, Int.reduceAdd, Int.reduceMul, Int.reduceSub, Int.reduceEq, Nat.reduceEqDiff, Nat.zero_add, id, decide_eq_true, decide_eq_false, n2], ?_⟩
  simp -implicitDefEqProofs (disch := first | assumption | (have := szL; omega) | (simp -implicitDefEqProofs only [len_rep, Nat.mul_one, Nat.reduceMul, Int.toNat_natCast, List.length_cons, List.length_nil, List.length_append, List.length_map, List.length_take, List.length_drop, List.length_replicate, noIo_no, noIo_fz, noIo_ow, plain_fz, plain_io, List.all_cons, List.all_nil, Bool.and_true, Bool.true_and, and_self, and_true, true_and, eq_self, ne_eq, not_false_eq_true, reduceCtorEq, Nat.zero_le, Nat.reduceAdd, Nat.zero_add, w1, w2, beq_self_eq_true]; done) | (simp -implicitDefEqProofs only [len_rep, Nat.mul_one, Nat.reduceMul, Int.toNat_natCast, List.length_cons, List.length_nil, List.length_append, List.length_map, List.length_take, List.length_drop, List.length_replicate, noIo_no, noIo_fz, noIo_ow, plain_fz, plain_io, List.all_cons, List.all_nil, Bool.and_true, Bool.true_and, and_self, and_true, true_and, eq_self, ne_eq, not_false_eq_true, reduceCtorEq, Nat.zero_le, Nat.reduceAdd, Nat.zero_add, w1, w2, beq_self_eq_true]; have := szL; omega)) only [kR_r1, kR_r2, kR_r3d, intsD, mFor_ap, kForS_ap, addF_ii, addF_tt, addF_ll, addF_ss, mulF_ii, mulF_tt, mulF_ll, subF_ii, ltF_ii, leF_ii, gtF_ii, geF_ii, modF_ii, divF_ii, powF_ii, cutD_lo, cutD_hi, cutD_mid, cutD_m1, mYes_ap, truD, isi_set_int, isi_set_bool, isi_set_tuple, isi_set_list, isi_set_str, isi_set_dict, mLc_ap, allF_f, anyF_f, isi_non_int, isi_bl_int, isi_int_int, isi_str_int, isi_tup_int, isi_lst_int, isi_dK_int, isi_dT_int, isi_non_bool, isi_bl_bool, isi_int_bool, isi_str_bool, isi_tup_bool, isi_lst_bool, isi_dK_bool, isi_dT_bool, isi_non_tuple, isi_bl_tuple, isi_int_tuple, isi_str_tuple, isi_tup_tuple, isi_lst_tuple, isi_dK_tuple, isi_dT_tuple, isi_non_list, isi_bl_list, isi_int_list, isi_str_list, isi_tup_list, isi_lst_list, isi_dK_list, isi_dT_list, isi_non_str, isi_bl_str, isi_int_str, isi_str_str, isi_tup_str, isi_lst_str, isi_dK_str, isi_dT_str, isi_non_dict, isi_bl_dict, isi_int_dict, isi_str_dict, isi_tup_dict, isi_lst_dict, isi_dK_dict, isi_dT_dict, eqF_int, neF_int, eqF_bl, neF_bl, eqF_T, neF_T, eqF_Tm, neF_Tm, bndR_ok, bndR_none, bnd_ap, ret_ap, stuck_ap, mVar_ap, kVar_fz, kVar_ow, kVar_io, mC_ap, content_val, content_new, content_bor, slD_fz, slD_ow, slD_io, rv_f, rv_t, val_eq, new_eq, kRz_some, kRz_none, kP1_some, prim1_ap, kP2_some, prim2_ap, mBin_ap, kBin_ap, kBin2_ap, mUn_ap, kUn_ap, mTest_ap, kTest_ap, mTruth_ap, kTruth_ap, kTru_some, mNotT_ap, kNot_ap, mAndT_ap, mOrT_ap, kAnd_t, kAnd_f, kOr_t, kOr_f, mIf_ap, mIte_ap, kIf_t, kIf_f, mAndV_ap, mOrV_ap, kAndV_t, kAndV_f, kOrV_t, kOrV_f, mChain_ap, kCh1_ap, kCh2_ap, kCh3_ap, kLink_t, kLink_f, mChain3_ap, kC31_ap, kC32_ap, settle_val, settle_new, settle_bor, kSl_fz, kSl_ow, kOk_some, mD_ap, kD_ap, mCons_ap, kCons1_ap, kCons2_ap, mNil_ap, mStar_ap, kStar_ap, kStar1_some, kStar2_ap, mTup_ap, mLst_ap, kTup_ok, kLst_ok, mDict0_ap, mNoPart_ap, mPart_ap, kPart_ap, mSl_ap, kS1_ap, kS2_ap, kS3_ap, kS4_some, mRNil_ap, mRCons_ap, kR1_ap, kR2_ap, contents_nil, contents_cons, kCts_some, mCallB_ap, kCB_ap, kCB1_some, mArg_ap, kArg_f, kArg_val, kArg_new, kArg_bor, kArB_ow, kArB_io, mANil_ap, mACons_ap, kA1_ap, kA2_ap, mCall_ap, kCall_ap, kCall1_some, kFin_ok, owned_ow, owned_io, owned_fz, slsOf_nil, slsOf_pl, slsOf_tp, slsOf_ob, kOb_some, back_nil, back_pl, back_tp, back_ob, obs_nil, obs_pl, obs_tp, obs_ob, tps_nil, tps_pl, tps_tp, tps_ob, setOwn_ap, kSO_ow, kSO_io, mMut_ap, kMut0_some, kMut_some, mHas_ap, kHas_lst, mAppend_ap, kApp_ap, mPop_ap, mExtend_ap, kExt_ap, kExt1_some, appF_ok, extF_ok, popF_snoc, mSeq_ap, kSeq_nx, kSeq_rt, kSeq_bk, kSeq_ct, mSkip_ap, mBrk_ap, mCnt_ap, mExpr_ap, kDrop_ap, mRet_ap, kRet_val, kRet_new, kRet_bor, kRetB_fz, kRetB_ow, mRetN_ap, kNx_some, mSet_ap, kSet_ap, setSl_ap, kSS_no, kSS_fz, kSS_ow, kSS_pl, z1, z2, z3, z4, z5, z6, z7, z8, z9, z10, z11, z12, z13, z14, z15, z16, z17, z18, z19, z20, ixF_lst0, ixF_lst1, ixF_lst2, ixF_lst3, ixF_lstm, ixF_tup0, ixF_tup1, ixF_tup2, ixF_tup3, ixF_tupm, ixF_rol0, ixF_rol1, ixF_rol2, ixF_rol3, ixF_rolm, setF_0, setF_1, setF_2, setF_3, putRv_val, putRv_new, putRv_bor, noIo_no, noIo_fz, noIo_ow, mAsg_ap, kAsg_ap, gNm_ap, gTp_ap, gsNil_ap, gsCons_ap, mSt_ap, kSt_val, kSt_new, kSt_bor, mPNil_ap, mPCons_ap, kPC1_ap, mPar_ap, kPar_ap, putN_nil, putN_cons, mAug_ap, kAug_fz, kAug1_ap, mSetIx_ap, kIx_ap, kIx1_some, kIx2_ap, kIx3_some, kIx5_some, kIx4_some, setF_ok, mTurn_ap, kTurn_nx, kTurn_ct, kTurn_bk, kTurn_rt, kWh_t, kWh_f, forF_nil, kFor_some, semFn_ap, kFn_rt, kFn_nx, plain_fz, plain_io, mItems_ap, kIt_val, kIt_new, kIt_bor, kItB_fz, kItB_ow, kItB_io, kSrc_some, items_tup, items_lst, items_rol, mRng_ap, kRn_ap, kR_some, plainArg, val, new, negF, notF, lenF, absF, intF, boolF, max2F, min2F, tupleF, listF, fI, fI0, slF, isL, Rz.rv, eq_self, List.getElem?_cons_succ, List.getElem?_cons_zero, List.set_cons_succ, List.set_cons_zero, Option.map_some, Option.map_none, Option.bind_some, decide_true, decide_false, decide_not, Bool.not_true, Bool.not_false, Bool.true_and, Bool.and_true, Bool.false_and, Bool.and_false, Bool.true_or, Bool.or_true, Bool.false_or, Bool.or_false, List.nil_append, List.cons_append, List.append_nil, List.length_cons, List.length_nil, List.length_append, List.length_map, List.replicate_succ, List.replicate_zero, List.all_cons, List.all_nil, if_true, if_false, ite_true, ite_false, Nat.sub_self, Nat.reduceAdd, Nat.reduceSub, Nat.reduceLeDiff, Nat.reduceLT, List.take_succ_cons, List.take_zero, true_and, and_true, not_true, not_false_eq_true, and_self, List.nodup_nil, List.nodup_cons, List.mem_cons, List.not_mem_nil, or_false, false_or, List.map_cons, List.map_nil, List.map_append, Bool.decide_eq_true, Nat.zero_le, Bool.cond_true, Bool.cond_false, ↓reduceIte, reduceCtorEq, Int.reduceLT, Int.reduceLE, Int.reduceNeg, Int.reduceAdd, Int.reduceMul, Int.reduceSub, Int.reduceEq, Nat.reduceEqDiff, Nat.zero_add, id, decide_eq_true, decide_eq_false, w__law_right_1_ap, w1, w2, beq_self_eq_true]
theorem right_2 {t : List Int} (ht : Trm t) {d c : D} (hD : Dice d) {s2 s4 s5 s6 s7 : Sl} (h2 : isPl s2 = true) (h4 : isPl s4 = true) (h5 : isPl s5 = true) (h6 : isPl s6 = true) (h7 : isPl s7 = true) :
    ∃ e1 d' s5' s6' s7', Dice d' ∧ isPl s5' = true ∧ isPl s6' = true ∧ isPl s7' = true ∧ gNm 4 c [.io d, .fz (.tup (t.map .int)), s2, .ow (.lst ((eLs t 0).map .int)), s4, s5, s6, s7] = some e1 ∧ w__law_right_2 e1 = some (.ok .nx [.io d', .fz (.tup (t.map .int)), s2, .ow (.lst ((eLs t 0).map .int)), .fz c, s5', s6', s7']) := by
  have n4 := noIo_pl h4
  have n5 := noIo_pl h5
  have n6 := noIo_pl h6
  have n7 := noIo_pl h7
  have tp := ht.pos
  have tl := ht.len
  obtain ⟨r1, d1, hD1, a1, b1, e1⟩ := roll_ok hD (n := t.length) (by omega) (by omega)
  obtain ⟨p, rfl⟩ : ∃ p : Nat, r1 = p := ⟨r1.toNat, by omega⟩
  have hp : p < t.length := by omega
  have tu := prt_Trm ht hp
  have ul := tu.len
  have up := tu.pos
  obtain ⟨r2, d2, hD2, a2, b2, e2⟩ := roll_ok hD1 (n := (prt t p).length) (by omega) (by omega)
  obtain ⟨i, hi⟩ : ∃ i : Nat, (p : Int) + ((prt t p).length : Nat) - 1 - r2 = ((p + i : Nat) : Int) := ⟨((prt t p).length - 1 - r2).toNat, by omega⟩
  have hi2 : i < (prt t p).length := by omega
  have hi3 : (((p + i : Nat) : Int) - (p : Int)) = (i : Int) := by omega
  obtain ⟨k1, k2, k3⟩ := prt_in ht.shape hp hi2
  have l1 := prt_length ht.shape hp
  have l2 := pend_le ht.shape hp
  have hq : p + i < t.length := by omega
  have l3 := pend_le ht.shape hq
  have w1 := part_of_ok ht hp
  have w2 := part_end_ok ht hp
  have w3 := part_end_ok ht hq
  have w4 := part_of_ok tu hi2
  rw [k3] at w4
  have w5 := part_of_ok ht hq
  have w6 := is_term_ok (okV_T (prt t p)).1 (okV_T (prt t p)).2
  rw [isT_T tu] at w6
  have g := eLs_get (t := t) (j := 0) hp (Nat.zero_le _)
  have z0 : (0 : Int) ≤ (p : Int) := by omega
  have z1 : (0 : Int) ≤ (pend t p : Int) := by omega
  have c1 : (p : Int) ≤ ((p + i : Nat) : Int) := by omega
  have c2 : ((p + i : Nat) : Int) < (pend t (p + i) : Int) := by omega
  have c3 : (pend t (p + i) : Int) ≤ (pend t p : Int) := by omega
  refine ⟨[.io d, .fz (.tup (t.map .int)), s2, .ow (.lst ((eLs t 0).map .int)), .fz c, s5, s6, s7], d2, .fz (.int p), .fz (.tup ((prt t p).map .int)), .fz (.int (p + i : Nat)), hD2, rfl, rfl, rfl, by simp -implicitDefEqProofs (disch := first | assumption | (have := szL; omega) | (simp -implicitDefEqProofs only [len_rep, Nat.mul_one, Nat.reduceMul, Int.toNat_natCast, List.length_cons, List.length_nil, List.length_append, List.length_map, List.length_take, List.length_drop, List.length_replicate, noIo_no, noIo_fz, noIo_ow, plain_fz, plain_io, List.all_cons, List.all_nil, Bool.and_true, Bool.true_and, and_self, and_true, true_and, eq_self, ne_eq, not_false_eq_true, reduceCtorEq, Nat.zero_le, Nat.reduceAdd, Nat.zero_add, n4]; done) | (simp -implicitDefEqProofs only [len_rep, Nat.mul_one, Nat.reduceMul, Int.toNat_natCast, List.length_cons, List.length_nil, List.length_append, List.length_map, List.length_take, List.length_drop, List.length_replicate, noIo_no, noIo_fz, noIo_ow, plain_fz, plain_io, List.all_cons, List.all_nil, Bool.and_true, Bool.true_and, and_self, and_true, true_and, eq_self, ne_eq, not_false_eq_true, reduceCtorEq, Nat.zero_le, Nat.reduceAdd, Nat.zero_add, n4]; have := szL; omega)) only [kR_r1, kR_r2, kR_r3d, intsD, mFor_ap, kForS_ap, addF_ii, addF_tt, addF_ll, addF_ss, mulF_ii, mulF_tt, mulF_ll, subF_ii, ltF_ii, leF_ii, gtF_ii, geF_ii, modF_ii, divF_ii, powF_ii, cutD_lo, cutD_hi, cutD_mid, cutD_m1, mYes_ap, truD, isi_set_int, isi_set_bool, isi_set_tuple, isi_set_list, isi_set_str, isi_set_dict, mLc_ap, allF_f, anyF_f, isi_non_int, isi_bl_int, isi_int_int, isi_str_int, isi_tup_int, isi_lst_int, isi_dK_int, isi_dT_int, isi_non_bool, isi_bl_bool, isi_int_bool, isi_str_bool, isi_tup_bool, isi_lst_bool, isi_dK_bool, isi_dT_bool, isi_non_tuple, isi_bl_tuple, isi_int_tuple, isi_str_tuple, isi_tup_tuple, isi_lst_tuple, isi_dK_tuple, isi_dT_tuple, isi_non_list, isi_bl_list, isi_int_list, isi_str_list, isi_tup_list, isi_lst_list, isi_dK_list, isi_dT_list, isi_non_str, isi_bl_str, isi_int_str, isi_str_str, isi_tup_str, isi_lst_str, isi_dK_str, isi_dT_str, isi_non_dict, isi_bl_dict, isi_int_dict, isi_str_dict, isi_tup_dict, isi_lst_dict, isi_dK_dict, isi_dT_dict, eqF_int, neF_int, eqF_bl, neF_bl, eqF_T, neF_T, eqF_Tm, neF_Tm, bndR_ok, bndR_none, bnd_ap, ret_ap, stuck_ap, mVar_ap, kVar_fz, kVar_ow, kVar_io, mC_ap, content_val, content_new, content_bor, slD_fz, slD_ow, slD_io, rv_f, rv_t, val_eq, new_eq, kRz_some, kRz_none, kP1_some, prim1_ap, kP2_some, prim2_ap, mBin_ap, kBin_ap, kBin2_ap, mUn_ap, kUn_ap, mTest_ap, kTest_ap, mTruth_ap, kTruth_ap, kTru_some, mNotT_ap, kNot_ap, mAndT_ap, mOrT_ap, kAnd_t, kAnd_f, kOr_t, kOr_f, mIf_ap, mIte_ap, kIf_t, kIf_f, mAndV_ap, mOrV_ap, kAndV_t, kAndV_f, kOrV_t, kOrV_f, mChain_ap, kCh1_ap, kCh2_ap, kCh3_ap, kLink_t, kLink_f, mChain3_ap, kC31_ap, kC32_ap, settle_val, settle_new, settle_bor, kSl_fz, kSl_ow, kOk_some, mD_ap, kD_ap, mCons_ap, kCons1_ap, kCons2_ap, mNil_ap, mStar_ap, kStar_ap, kStar1_some, kStar2_ap, mTup_ap, mLst_ap, kTup_ok, kLst_ok, mDict0_ap, mNoPart_ap, mPart_ap, kPart_ap, mSl_ap, kS1_ap, kS2_ap, kS3_ap, kS4_some, mRNil_ap, mRCons_ap, kR1_ap, kR2_ap, contents_nil, contents_cons, kCts_some, mCallB_ap, kCB_ap, kCB1_some, mArg_ap, kArg_f, kArg_val, kArg_new, kArg_bor, kArB_ow, kArB_io, mANil_ap, mACons_ap, kA1_ap, kA2_ap, mCall_ap, kCall_ap, kCall1_some, kFin_ok, owned_ow, owned_io, owned_fz, slsOf_nil, slsOf_pl, slsOf_tp, slsOf_ob, kOb_some, back_nil, back_pl, back_tp, back_ob, obs_nil, obs_pl, obs_tp, obs_ob, tps_nil, tps_pl, tps_tp, tps_ob, setOwn_ap, kSO_ow, kSO_io, mMut_ap, kMut0_some, kMut_some, mHas_ap, kHas_lst, mAppend_ap, kApp_ap, mPop_ap, mExtend_ap, kExt_ap, kExt1_some, appF_ok, extF_ok, popF_snoc, mSeq_ap, kSeq_nx, kSeq_rt, kSeq_bk, kSeq_ct, mSkip_ap, mBrk_ap, mCnt_ap, mExpr_ap, kDrop_ap, mRet_ap, kRet_val, kRet_new, kRet_bor, kRetB_fz, kRetB_ow, mRetN_ap, kNx_some, mSet_ap, kSet_ap, setSl_ap, kSS_no, kSS_fz, kSS_ow, kSS_pl, z1, z2, z3, z4, z5, z6, z7, z8, z9, z10, z11, z12, z13, z14, z15, z16, z17, z18, z19, z20, ixF_lst0, ixF_lst1, ixF_lst2, ixF_lst3, ixF_lstm, ixF_tup0, ixF_tup1, ixF_tup2, ixF_tup3, ixF_tupm, ixF_rol0, ixF_rol1, ixF_rol2, ixF_rol3, ixF_rolm, setF_0, setF_1, setF_2, setF_3, putRv_val, putRv_new, putRv_bor, noIo_no, noIo_fz, noIo_ow, mAsg_ap, kAsg_ap, gNm_ap, gTp_ap, gsNil_ap, gsCons_ap, mSt_ap, kSt_val, kSt_new, kSt_bor, mPNil_ap, mPCons_ap, kPC1_ap, mPar_ap, kPar_ap, putN_nil, putN_cons, mAug_ap, kAug_fz, kAug1_ap, mSetIx_ap, kIx_ap, kIx1_some, kIx2_ap, kIx3_some, kIx5_some, kIx4_some, setF_ok, mTurn_ap, kTurn_nx, kTurn_ct, kTurn_bk, kTurn_rt, kWh_t, kWh_f, forF_nil, kFor_some, semFn_ap, kFn_rt, kFn_nx, plain_fz, plain_io, mItems_ap, kIt_val, kIt_new, kIt_bor, kItB_fz, kItB_ow, kItB_io, kSrc_some, items_tup, items_lst, items_rol, mRng_ap, kRn_ap, kR_some, plainArg, val, new, negF, notF, lenF, absF, intF, boolF, max2F, min2F, tupleF, listF, fI, fI0, slF, isL, Rz.rv, eq_self, List.getElem?_cons_succ, List.getElem?_cons_zero, List.set_cons_succ, List.set_cons_zero, Option.map_some, Option.map_none, Option.bind_some, decide_true, decide_false, decide_not, Bool.not_true, Bool.not_false, Bool.true_and, Bool.and_true, Bool.false_and, Bool.and_false, Bool.true_or, Bool.or_true, Bool.false_or, Bool.or_false, List.nil_append, List.cons_append, List.append_nil, List.length_cons, List.length_nil, List.length_append, List.length_map, List.replicate_succ, List.replicate_zero, List.all_cons, List.all_nil, if_true, if_false, ite_true, ite_false, Nat.sub_self, Nat.reduceAdd, Nat.reduceSub, Nat.reduceLeDiff, Nat.reduceLT, List.take_succ_cons, List.take_zero, true_and, and_true, not_true, not_false_eq_true, and_self, List.nodup_nil, List.nodup_cons, List.mem_cons, List.not_mem_nil, or_false, false_or, List.map_cons, List.map_nil, List.map_append, Bool.decide_eq_true, Nat.zero_le, Bool.cond_true, Bool.cond_false, ↓reduceIte, reduceCtorEq, Int.reduceLT, Int.reduceLE, Int.reduceNeg, Int.reduceAdd, Int.reduceMul, Int.reduceSub, Int.reduceEq, Nat.reduceEqDiff, Nat.zero_add, id, decide_eq_true, decide_eq_false, n4], ?_⟩
  simp -implicitDefEqProofs only [kR_r1, kR_r2, kR_r3d, intsD, mFor_ap, kForS_ap, addF_ii, addF_tt, addF_ll, addF_ss, mulF_ii, mulF_tt, mulF_ll, subF_ii, ltF_ii, leF_ii, gtF_ii, geF_ii, modF_ii, divF_ii, powF_ii, cutD_lo, cutD_hi, cutD_mid, cutD_m1, mYes_ap, truD, isi_set_int, isi_set_bool, isi_set_tuple, isi_set_list, isi_set_str, isi_set_dict, mLc_ap, allF_f, anyF_f, isi_non_int, isi_bl_int, isi_int_int, isi_str_int, isi_tup_int, isi_lst_int, isi_dK_int, isi_dT_int, isi_non_bool, isi_bl_bool, isi_int_bool, isi_str_bool, isi_tup_bool, isi_lst_bool, isi_dK_bool, isi_dT_bool, isi_non_tuple, isi_bl_tuple, isi_int_tuple, isi_str_tuple, isi_tup_tuple, isi_lst_tuple, isi_dK_tuple, isi_dT_tuple, isi_non_list, isi_bl_list, isi_int_list, isi_str_list, isi_tup_list, isi_lst_list, isi_dK_list, isi_dT_list, isi_non_str, isi_bl_str, isi_int_str, isi_str_str, isi_tup_str, isi_lst_str, isi_dK_str, isi_dT_str, isi_non_dict, isi_bl_dict, isi_int_dict, isi_str_dict, isi_tup_dict, isi_lst_dict, isi_dK_dict, isi_dT_dict, eqF_int, neF_int, eqF_bl, neF_bl, eqF_T, neF_T, eqF_Tm, neF_Tm, bndR_ok, bndR_none, bnd_ap, ret_ap, stuck_ap, mVar_ap, kVar_fz, kVar_ow, kVar_io, mC_ap, content_val, content_new, content_bor, slD_fz, slD_ow, slD_io, rv_f, rv_t, val_eq, new_eq, kRz_some, kRz_none, kP1_some, prim1_ap, kP2_some, prim2_ap, mBin_ap, kBin_ap, kBin2_ap, mUn_ap, kUn_ap, mTest_ap, kTest_ap, mTruth_ap, kTruth_ap, kTru_some, mNotT_ap, kNot_ap, mAndT_ap, mOrT_ap, kAnd_t, kAnd_f, kOr_t, kOr_f, mIf_ap, mIte_ap, kIf_t, kIf_f, mAndV_ap, mOrV_ap, kAndV_t, kAndV_f, kOrV_t, kOrV_f, mChain_ap, kCh1_ap, kCh2_ap, kCh3_ap, kLink_t, kLink_f, mChain3_ap, kC31_ap, kC32_ap, settle_val, settle_new, settle_bor, kSl_fz, kSl_ow, kOk_some, mD_ap, kD_ap, mCons_ap, kCons1_ap, kCons2_ap, mNil_ap, mStar_ap, kStar_ap, kStar1_some, kStar2_ap, mTup_ap, mLst_ap, kTup_ok, kLst_ok, mDict0_ap, mNoPart_ap, mPart_ap, kPart_ap, mSl_ap, kS1_ap, kS2_ap, kS3_ap, kS4_some, mRNil_ap, mRCons_ap, kR1_ap, kR2_ap, contents_nil, contents_cons, kCts_some, mCallB_ap, kCB_ap, kCB1_some, mArg_ap, kArg_f, kArg_val, kArg_new, kArg_bor, kArB_ow, kArB_io, mANil_ap, mACons_ap, kA1_ap, kA2_ap, mCall_ap, kCall_ap, kCall1_some, kFin_ok, owned_ow, owned_io, owned_fz, slsOf_nil, slsOf_pl, slsOf_tp, slsOf_ob, kOb_some, back_nil, back_pl, back_tp, back_ob, obs_nil, obs_pl, obs_tp, obs_ob, tps_nil, tps_pl, tps_tp, tps_ob, setOwn_ap, kSO_ow, kSO_io, mMut_ap, kMut0_some, kMut_some, mHas_ap, kHas_lst, mAppend_ap, kApp_ap, mPop_ap, mExtend_ap, kExt_ap, kExt1_some, appF_ok, extF_ok, popF_snoc, mSeq_ap, kSeq_nx, kSeq_rt, kSeq_bk, kSeq_ct, mSkip_ap, mBrk_ap, mCnt_ap, mExpr_ap, kDrop_ap, mRet_ap, kRet_val, kRet_new, kRet_bor, kRetB_fz, kRetB_ow, mRetN_ap, kNx_some, mSet_ap, kSet_ap, setSl_ap, kSS_no, kSS_fz, kSS_ow, kSS_pl, z1, z2, z3, z4, z5, z6, z7, z8, z9, z10, z11, z12, z13, z14, z15, z16, z17, z18, z19, z20, ixF_lst0, ixF_lst1, ixF_lst2, ixF_lst3, ixF_lstm, ixF_tup0, ixF_tup1, ixF_tup2, ixF_tup3, ixF_tupm, ixF_rol0, ixF_rol1, ixF_rol2, ixF_rol3, ixF_rolm, setF_0, setF_1, setF_2, setF_3, putRv_val, putRv_new, putRv_bor, noIo_no, noIo_fz, noIo_ow, mAsg_ap, kAsg_ap, gNm_ap, gTp_ap, gsNil_ap, gsCons_ap, mSt_ap, kSt_val, kSt_new, kSt_bor, mPNil_ap, mPCons_ap, kPC1_ap, mPar_ap, kPar_ap, putN_nil, putN_cons, mAug_ap, kAug_fz, kAug1_ap, mSetIx_ap, kIx_ap, kIx1_some, kIx2_ap, kIx3_some, kIx5_some, kIx4_some, setF_ok, mTurn_ap, kTurn_nx, kTurn_ct, kTurn_bk, kTurn_rt, kWh_t, kWh_f, forF_nil, kFor_some, semFn_ap, kFn_rt, kFn_nx, plain_fz, plain_io, mItems_ap, kIt_val, kIt_new, kIt_bor, kItB_fz, kItB_ow, kItB_io, kSrc_some, items_tup, items_lst, items_rol, mRng_ap, kRn_ap, kR_some, plainArg, val, new, negF, notF, lenF, absF, intF, boolF, max2F, min2F, tupleF, listF, fI, fI0, slF, isL, Rz.rv, eq_self, List.getElem?_cons_succ, List.getElem?_cons_zero, List.set_cons_succ, List.set_cons_zero, Option.map_some, Option.map_none, Option.bind_some, decide_true, decide_false, decide_not, Bool.not_true, Bool.not_false, Bool.true_and, Bool.and_true, Bool.false_and, Bool.and_false, Bool.true_or, Bool.or_true, Bool.false_or, Bool.or_false, List.nil_append, List.cons_append, List.append_nil, List.length_cons, List.length_nil, List.length_append, List.length_map, List.replicate_succ, List.replicate_zero, List.all_cons, List.all_nil, if_true, if_false, ite_true, ite_false, Nat.sub_self, Nat.reduceAdd, Nat.reduceSub, Nat.reduceLeDiff, Nat.reduceLT, List.take_succ_cons, List.take_zero, true_and, and_true, not_true, not_false_eq_true, and_self, List.nodup_nil, List.nodup_cons, List.mem_cons, List.not_mem_nil, or_false, false_or, List.map_cons, List.map_nil, List.map_append, Bool.decide_eq_true, Nat.zero_le, Bool.cond_true, Bool.cond_false, ↓reduceIte, reduceCtorEq, Int.reduceLT, Int.reduceLE, Int.reduceNeg, Int.reduceAdd, Int.reduceMul, Int.reduceSub, Int.reduceEq, Nat.reduceEqDiff, Nat.zero_add, id, w__law_right_2_ap, n5, n6, n7, e1, e2, w1, w2, w3, w4, w5, w6, g, z0, z1, c1, c2, c3, hi, hi3, Int.toNat_natCast, prt_map]
theorem right_ok {d : D} (hD : Dice d) : ∃ d', s__law_right [.io d] = some (.ok (false, .bl true) [.io d']) := by
  obtain ⟨r1, d1, hD1, a1, b1, e1⟩ := roll_ok hD (n := 40) (by omega) (by omega)
  obtain ⟨r2, d2, hD2, a2, b2, e2⟩ := roll_ok hD1 (n := 3) (by omega) (by omega)
  obtain ⟨t, d3, hD3, ts, tc, tl, e3⟩ := term_drawn (size := 1 + r1) (o := 1 + r2) (by omega) (by omega) (by omega) (by omega) hD2
  have wl : wt (1 + r2) (1 + r1, 0) = max (1 + r1).toNat 1 := by unfold wt; rw [if_neg (by simp only; omega)]
  rw [wl] at tc tl
  have ht : Trm t := ⟨ts, fun c hc => by have := tc c hc; omega, by omega⟩
  have tp := ht.pos
  obtain ⟨vs, d4, hD4, ov, lv, e4⟩ := near_ok ht.len ht.pos hD3
  obtain ⟨us, d5, hD5, ou, lu, e5⟩ := long_ok hD4
  have sv : vs.length + us.length ≤ sizeLine := sizeL (by omega)
  have e6 := ends_ok ht
  have oA : okA (vs ++ us) := by rw [okA_app]; exact ⟨ov, ou⟩
  obtain ⟨E1, q1, s2, p2, rfl⟩ := forF_keep (g := gNm 2) (b := w__law_right_1) (ds := vs ++ us) (env := [.io d5, .fz (.tup (t.map .int)), .no, .no, .no, .no, .no, .no]) (I := fun e => ∃ s2, isPl s2 = true ∧ e = [.io d5, .fz (.tup (t.map .int)), s2, .no, .no, .no, .no, .no]) ⟨.no, rfl, rfl⟩ fun v hv e ⟨s2, p2, he⟩ => by
    subst he
    obtain ⟨e1, x1, x2⟩ := right_1 (t := t) (d := d5) p2 (oA v hv)
    exact ⟨e1, _, x1, x2, _, rfl, rfl⟩
  obtain ⟨E2, q2, d6, s4, s5, s6, s7, hD6, p4, p5, p6, p7, rfl⟩ := forF_keep (g := gNm 4) (b := w__law_right_2) (ds := rngD 0 12) (env := [.io d5, .fz (.tup (t.map .int)), s2, .ow (.lst ((eLs t 0).map .int)), .no, .no, .no, .no]) (I := fun e => ∃ d s4 s5 s6 s7, Dice d ∧ isPl s4 = true ∧ isPl s5 = true ∧ isPl s6 = true ∧ isPl s7 = true ∧ e = [.io d, .fz (.tup (t.map .int)), s2, .ow (.lst ((eLs t 0).map .int)), s4, s5, s6, s7]) ⟨d5, .no, .no, .no, .no, hD5, rfl, rfl, rfl, rfl, rfl⟩ fun c hc e ⟨d, s4, s5, s6, s7, hD, p4, p5, p6, p7, he⟩ => by
    subst he
    obtain ⟨e1, d', s5', s6', s7', hD', x5, x6, x7, x1, x2⟩ := right_2 ht (c := c) hD p2 p4 p5 p6 p7
    exact ⟨e1, _, x1, x2, d', .fz c, s5', s6', s7', hD', rfl, x5, x6, x7, rfl⟩
  have w1 := part_of_ok (p := 0) ht (by omega)
  rw [prt_zero ts] at w1
  simp only [Int.cast_ofNat_Int] at w1
  have n2 := noIo_pl p2
  have z12 : (12 : Int).toNat = 12 := rfl
  simp only [T] at e3
  refine ⟨d6, ?_⟩
  simp -implicitDefEqProofs (disch := first | assumption | (have := szL; omega) | (simp -implicitDefEqProofs only [len_rep, Nat.mul_one, Nat.reduceMul, Int.toNat_natCast, List.length_cons, List.length_nil, List.length_append, List.length_map, List.length_take, List.length_drop, List.length_replicate, noIo_no, noIo_fz, noIo_ow, plain_fz, plain_io, List.all_cons, List.all_nil, Bool.and_true, Bool.true_and, and_self, and_true, true_and, eq_self, ne_eq, not_false_eq_true, reduceCtorEq, Nat.zero_le, Nat.reduceAdd, Nat.zero_add, e1, e2, e3, e4, e5, e6, q1, q2, w1, z12, n2]; done) | (simp -implicitDefEqProofs only [len_rep, Nat.mul_one, Nat.reduceMul, Int.toNat_natCast, List.length_cons, List.length_nil, List.length_append, List.length_map, List.length_take, List.length_drop, List.length_replicate, noIo_no, noIo_fz, noIo_ow, plain_fz, plain_io, List.all_cons, List.all_nil, Bool.and_true, Bool.true_and, and_self, and_true, true_and, eq_self, ne_eq, not_false_eq_true, reduceCtorEq, Nat.zero_le, Nat.reduceAdd, Nat.zero_add, e1, e2, e3, e4, e5, e6, q1, q2, w1, z12, n2]; have := szL; omega)) only [kR_r1, kR_r2, kR_r3d, intsD, mFor_ap, kForS_ap, addF_ii, addF_tt, addF_ll, addF_ss, mulF_ii, mulF_tt, mulF_ll, subF_ii, ltF_ii, leF_ii, gtF_ii, geF_ii, modF_ii, divF_ii, powF_ii, cutD_lo, cutD_hi, cutD_mid, cutD_m1, mYes_ap, truD, isi_set_int, isi_set_bool, isi_set_tuple, isi_set_list, isi_set_str, isi_set_dict, mLc_ap, allF_f, anyF_f, isi_non_int, isi_bl_int, isi_int_int, isi_str_int, isi_tup_int, isi_lst_int, isi_dK_int, isi_dT_int, isi_non_bool, isi_bl_bool, isi_int_bool, isi_str_bool, isi_tup_bool, isi_lst_bool, isi_dK_bool, isi_dT_bool, isi_non_tuple, isi_bl_tuple, isi_int_tuple, isi_str_tuple, isi_tup_tuple, isi_lst_tuple, isi_dK_tuple, isi_dT_tuple, isi_non_list, isi_bl_list, isi_int_list, isi_str_list, isi_tup_list, isi_lst_list, isi_dK_list, isi_dT_list, isi_non_str, isi_bl_str, isi_int_str, isi_str_str, isi_tup_str, isi_lst_str, isi_dK_str, isi_dT_str, isi_non_dict, isi_bl_dict, isi_int_dict, isi_str_dict, isi_tup_dict, isi_lst_dict, isi_dK_dict, isi_dT_dict, eqF_int, neF_int, eqF_bl, neF_bl, eqF_T, neF_T, eqF_Tm, neF_Tm, bndR_ok, bndR_none, bnd_ap, ret_ap, stuck_ap, mVar_ap, kVar_fz, kVar_ow, kVar_io, mC_ap, content_val, content_new, content_bor, slD_fz, slD_ow, slD_io, rv_f, rv_t, val_eq, new_eq, kRz_some, kRz_none, kP1_some, prim1_ap, kP2_some, prim2_ap, mBin_ap, kBin_ap, kBin2_ap, mUn_ap, kUn_ap, mTest_ap, kTest_ap, mTruth_ap, kTruth_ap, kTru_some, mNotT_ap, kNot_ap, mAndT_ap, mOrT_ap, kAnd_t, kAnd_f, kOr_t, kOr_f, mIf_ap, mIte_ap, kIf_t, kIf_f, mAndV_ap, mOrV_ap, kAndV_t, kAndV_f, kOrV_t, kOrV_f, mChain_ap, kCh1_ap, kCh2_ap, kCh3_ap, kLink_t, kLink_f, mChain3_ap, kC31_ap, kC32_ap, settle_val, settle_new, settle_bor, kSl_fz, kSl_ow, kOk_some, mD_ap, kD_ap, mCons_ap, kCons1_ap, kCons2_ap, mNil_ap, mStar_ap, kStar_ap, kStar1_some, kStar2_ap, mTup_ap, mLst_ap, kTup_ok, kLst_ok, mDict0_ap, mNoPart_ap, mPart_ap, kPart_ap, mSl_ap, kS1_ap, kS2_ap, kS3_ap, kS4_some, mRNil_ap, mRCons_ap, kR1_ap, kR2_ap, contents_nil, contents_cons, kCts_some, mCallB_ap, kCB_ap, kCB1_some, mArg_ap, kArg_f, kArg_val, kArg_new, kArg_bor, kArB_ow, kArB_io, mANil_ap, mACons_ap, kA1_ap, kA2_ap, mCall_ap, kCall_ap, kCall1_some, kFin_ok, owned_ow, owned_io, owned_fz, slsOf_nil, slsOf_pl, slsOf_tp, slsOf_ob, kOb_some, back_nil, back_pl, back_tp, back_ob, obs_nil, obs_pl, obs_tp, obs_ob, tps_nil, tps_pl, tps_tp, tps_ob, setOwn_ap, kSO_ow, kSO_io, mMut_ap, kMut0_some, kMut_some, mHas_ap, kHas_lst, mAppend_ap, kApp_ap, mPop_ap, mExtend_ap, kExt_ap, kExt1_some, appF_ok, extF_ok, popF_snoc, mSeq_ap, kSeq_nx, kSeq_rt, kSeq_bk, kSeq_ct, mSkip_ap, mBrk_ap, mCnt_ap, mExpr_ap, kDrop_ap, mRet_ap, kRet_val, kRet_new, kRet_bor, kRetB_fz, kRetB_ow, mRetN_ap, kNx_some, mSet_ap, kSet_ap, setSl_ap, kSS_no, kSS_fz, kSS_ow, kSS_pl, z1, z2, z3, z4, z5, z6, z7, z8, z9, z10, z11, z12, z13, z14, z15, z16, z17, z18, z19, z20, ixF_lst0, ixF_lst1, ixF_lst2, ixF_lst3, ixF_lstm, ixF_tup0, ixF_tup1, ixF_tup2, ixF_tup3, ixF_tupm, ixF_rol0, ixF_rol1, ixF_rol2, ixF_rol3, ixF_rolm, setF_0, setF_1, setF_2, setF_3, putRv_val, putRv_new, putRv_bor, noIo_no, noIo_fz, noIo_ow, mAsg_ap, kAsg_ap, gNm_ap, gTp_ap, gsNil_ap, gsCons_ap, mSt_ap, kSt_val, kSt_new, kSt_bor, mPNil_ap, mPCons_ap, kPC1_ap, mPar_ap, kPar_ap, putN_nil, putN_cons, mAug_ap, kAug_fz, kAug1_ap, mSetIx_ap, kIx_ap, kIx1_some, kIx2_ap, kIx3_some, kIx5_some, kIx4_some, setF_ok, mTurn_ap, kTurn_nx, kTurn_ct, kTurn_bk, kTurn_rt, kWh_t, kWh_f, forF_nil, kFor_some, semFn_ap, kFn_rt, kFn_nx, plain_fz, plain_io, mItems_ap, kIt_val, kIt_new, kIt_bor, kItB_fz, kItB_ow, kItB_io, kSrc_some, items_tup, items_lst, items_rol, mRng_ap, kRn_ap, kR_some, plainArg, val, new, negF, notF, lenF, absF, intF, boolF, max2F, min2F, tupleF, listF, fI, fI0, slF, isL, Rz.rv, eq_self, List.getElem?_cons_succ, List.getElem?_cons_zero, List.set_cons_succ, List.set_cons_zero, Option.map_some, Option.map_none, Option.bind_some, decide_true, decide_false, decide_not, Bool.not_true, Bool.not_false, Bool.true_and, Bool.and_true, Bool.false_and, Bool.and_false, Bool.true_or, Bool.or_true, Bool.false_or, Bool.or_false, List.nil_append, List.cons_append, List.append_nil, List.length_cons, List.length_nil, List.length_append, List.length_map, List.replicate_succ, List.replicate_zero, List.all_cons, List.all_nil, if_true, if_false, ite_true, ite_false, Nat.sub_self, Nat.reduceAdd, Nat.reduceSub, Nat.reduceLeDiff, Nat.reduceLT, List.take_succ_cons, List.take_zero, true_and, and_true, not_true, not_false_eq_true, and_self, List.nodup_nil, List.nodup_cons, List.mem_cons, List.not_mem_nil, or_false, false_or, List.map_cons, List.map_nil, List.map_append, Bool.decide_eq_true, Nat.zero_le, Bool.cond_true, Bool.cond_false, ↓reduceIte, reduceCtorEq, Int.reduceLT, Int.reduceLE, Int.reduceNeg, Int.reduceAdd, Int.reduceMul, Int.reduceSub, Int.reduceEq, Nat.reduceEqDiff, Nat.zero_add, id, decide_eq_true, decide_eq_false, s__law_right, b__law_right, e1, e2, e3, e4, e5, e6, q1, q2, w1, z12, n2]
end PL

namespace PL
open PySem L2
theorem eqv_ne {a b : D} {k : Bool} (h1 : cmpOk a = true) (h2 : cmpOk b = true) (h : eqv a b = k) : neF a b = val (.bl (!k)) := by
  unfold neF
  rw [if_pos ⟨h1, h2⟩, h]
theorem eqv_eq {a b : D} {k : Bool} (h1 : cmpOk a = true) (h2 : cmpOk b = true) (h : eqv a b = k) : eqF a b = val (.bl k) := by
  unfold eqF
  rw [if_pos ⟨h1, h2⟩, h]
theorem law_true : ∀ ns : List Int, ns.length ≤ 63 → ∃ e, s_law [.fz (.rol (ns.map D.int))] = some (.ok (false, .bl true) e) := fun ns hn => by
  obtain ⟨E1, q1, s1, p1, rfl⟩ := forF_keep (g := gNm 1) (b := w_law_1) (ds := rngD 0 (if 1 < (if (ns.length : Int) < 3 then (ns.length : Int) else 3) then (if (ns.length : Int) < 3 then (ns.length : Int) else 3) else 1).toNat) (env := [.fz (.rol (ns.map D.int)), .no, .no, .no]) (I := fun e => ∃ s1, isPl s1 = true ∧ e = [.fz (.rol (ns.map D.int)), s1, .no, .no]) ⟨.no, rfl, rfl⟩ fun c hc e ⟨s1, p1, he⟩ => by
    subst he
    have n1 := noIo_pl p1
    obtain ⟨k, hk, rfl⟩ := List.mem_map.mp hc
    rw [List.mem_range] at hk
    have hk3 : k ≤ 3 := by
      split at hk
      · split at hk <;> omega
      · omega
    obtain ⟨d, hD, e1⟩ := dice_ok ns (0 + (k : Int)) (by omega) (by omega)
    obtain ⟨d', e2⟩ := right_ok hD
    refine ⟨[.fz (.rol (ns.map D.int)), .fz (.int (0 + (k : Nat))), .no, .no], [.fz (.rol (ns.map D.int)), .fz (.int (0 + (k : Nat))), .no, .no], by simp -implicitDefEqProofs (disch := first | assumption | (have := szL; omega) | (simp -implicitDefEqProofs only [len_rep, Nat.mul_one, Nat.reduceMul, Int.toNat_natCast, List.length_cons, List.length_nil, List.length_append, List.length_map, List.length_take, List.length_drop, List.length_replicate, noIo_no, noIo_fz, noIo_ow, plain_fz, plain_io, List.all_cons, List.all_nil, Bool.and_true, Bool.true_and, and_self, and_true, true_and, eq_self, ne_eq, not_false_eq_true, reduceCtorEq, Nat.zero_le, Nat.reduceAdd, Nat.zero_add, n1]; done) | (simp -implicitDefEqProofs only [len_rep, Nat.mul_one, Nat.reduceMul, Int.toNat_natCast, List.length_cons, List.length_nil, List.length_append, List.length_map, List.length_take, List.length_drop, List.length_replicate, noIo_no, noIo_fz, noIo_ow, plain_fz, plain_io, List.all_cons, List.all_nil, Bool.and_true, Bool.true_and, and_self, and_true, true_and, eq_self, ne_eq, not_false_eq_true, reduceCtorEq, Nat.zero_le, Nat.reduceAdd, Nat.zero_add, n1]; have := szL; omega)) only [kR_r1, kR_r2, kR_r3d, intsD, mFor_ap, kForS_ap, addF_ii, addF_tt, addF_ll, addF_ss, mulF_ii, mulF_tt, mulF_ll, subF_ii, ltF_ii, leF_ii, gtF_ii, geF_ii, modF_ii, divF_ii, powF_ii, cutD_lo, cutD_hi, cutD_mid, cutD_m1, mYes_ap, truD, isi_set_int, isi_set_bool, isi_set_tuple, isi_set_list, isi_set_str, isi_set_dict, mLc_ap, allF_f, anyF_f, isi_non_int, isi_bl_int, isi_int_int, isi_str_int, isi_tup_int, isi_lst_int, isi_dK_int, isi_dT_int, isi_non_bool, isi_bl_bool, isi_int_bool, isi_str_bool, isi_tup_bool, isi_lst_bool, isi_dK_bool, isi_dT_bool, isi_non_tuple, isi_bl_tuple, isi_int_tuple, isi_str_tuple, isi_tup_tuple, isi_lst_tuple, isi_dK_tuple, isi_dT_tuple, isi_non_list, isi_bl_list, isi_int_list, isi_str_list, isi_tup_list, isi_lst_list, isi_dK_list, isi_dT_list, isi_non_str, isi_bl_str, isi_int_str, isi_str_str, isi_tup_str, isi_lst_str, isi_dK_str, isi_dT_str, isi_non_dict, isi_bl_dict, isi_int_dict, isi_str_dict, isi_tup_dict, isi_lst_dict, isi_dK_dict, isi_dT_dict, eqF_int, neF_int, eqF_bl, neF_bl, eqF_T, neF_T, eqF_Tm, neF_Tm, bndR_ok, bndR_none, bnd_ap, ret_ap, stuck_ap, mVar_ap, kVar_fz, kVar_ow, kVar_io, mC_ap, content_val, content_new, content_bor, slD_fz, slD_ow, slD_io, rv_f, rv_t, val_eq, new_eq, kRz_some, kRz_none, kP1_some, prim1_ap, kP2_some, prim2_ap, mBin_ap, kBin_ap, kBin2_ap, mUn_ap, kUn_ap, mTest_ap, kTest_ap, mTruth_ap, kTruth_ap, kTru_some, mNotT_ap, kNot_ap, mAndT_ap, mOrT_ap, kAnd_t, kAnd_f, kOr_t, kOr_f, mIf_ap, mIte_ap, kIf_t, kIf_f, mAndV_ap, mOrV_ap, kAndV_t, kAndV_f, kOrV_t, kOrV_f, mChain_ap, kCh1_ap, kCh2_ap, kCh3_ap, kLink_t, kLink_f, mChain3_ap, kC31_ap, kC32_ap, settle_val, settle_new, settle_bor, kSl_fz, kSl_ow, kOk_some, mD_ap, kD_ap, mCons_ap, kCons1_ap, kCons2_ap, mNil_ap, mStar_ap, kStar_ap, kStar1_some, kStar2_ap, mTup_ap, mLst_ap, kTup_ok, kLst_ok, mDict0_ap, mNoPart_ap, mPart_ap, kPart_ap, mSl_ap, kS1_ap, kS2_ap, kS3_ap, kS4_some, mRNil_ap, mRCons_ap, kR1_ap, kR2_ap, contents_nil, contents_cons, kCts_some, mCallB_ap, kCB_ap, kCB1_some, mArg_ap, kArg_f, kArg_val, kArg_new, kArg_bor, kArB_ow, kArB_io, mANil_ap, mACons_ap, kA1_ap, kA2_ap, mCall_ap, kCall_ap, kCall1_some, kFin_ok, owned_ow, owned_io, owned_fz, slsOf_nil, slsOf_pl, slsOf_tp, slsOf_ob, kOb_some, back_nil, back_pl, back_tp, back_ob, obs_nil, obs_pl, obs_tp, obs_ob, tps_nil, tps_pl, tps_tp, tps_ob, setOwn_ap, kSO_ow, kSO_io, mMut_ap, kMut0_some, kMut_some, mHas_ap, kHas_lst, mAppend_ap, kApp_ap, mPop_ap, mExtend_ap, kExt_ap, kExt1_some, appF_ok, extF_ok, popF_snoc, mSeq_ap, kSeq_nx, kSeq_rt, kSeq_bk, kSeq_ct, mSkip_ap, mBrk_ap, mCnt_ap, mExpr_ap, kDrop_ap, mRet_ap, kRet_val, kRet_new, kRet_bor, kRetB_fz, kRetB_ow, mRetN_ap, kNx_some, mSet_ap, kSet_ap, setSl_ap, kSS_no, kSS_fz, kSS_ow, kSS_pl, z1, z2, z3, z4, z5, z6, z7, z8, z9, z10, z11, z12, z13, z14, z15, z16, z17, z18, z19, z20, ixF_lst0, ixF_lst1, ixF_lst2, ixF_lst3, ixF_lstm, ixF_tup0, ixF_tup1, ixF_tup2, ixF_tup3, ixF_tupm, ixF_rol0, ixF_rol1, ixF_rol2, ixF_rol3, ixF_rolm, setF_0, setF_1, setF_2, setF_3, putRv_val, putRv_new, putRv_bor, noIo_no, noIo_fz, noIo_ow, mAsg_ap, kAsg_ap, gNm_ap, gTp_ap, gsNil_ap, gsCons_ap, mSt_ap, kSt_val, kSt_new, kSt_bor, mPNil_ap, mPCons_ap, kPC1_ap, mPar_ap, kPar_ap, putN_nil, putN_cons, mAug_ap, kAug_fz, kAug1_ap, mSetIx_ap, kIx_ap, kIx1_some, kIx2_ap, kIx3_some, kIx5_some, kIx4_some, setF_ok, mTurn_ap, kTurn_nx, kTurn_ct, kTurn_bk, kTurn_rt, kWh_t, kWh_f, forF_nil, kFor_some, semFn_ap, kFn_rt, kFn_nx, plain_fz, plain_io, mItems_ap, kIt_val, kIt_new, kIt_bor, kItB_fz, kItB_ow, kItB_io, kSrc_some, items_tup, items_lst, items_rol, mRng_ap, kRn_ap, kR_some, plainArg, val, new, negF, notF, lenF, absF, intF, boolF, max2F, min2F, tupleF, listF, fI, fI0, slF, isL, Rz.rv, eq_self, List.getElem?_cons_succ, List.getElem?_cons_zero, List.set_cons_succ, List.set_cons_zero, Option.map_some, Option.map_none, Option.bind_some, decide_true, decide_false, decide_not, Bool.not_true, Bool.not_false, Bool.true_and, Bool.and_true, Bool.false_and, Bool.and_false, Bool.true_or, Bool.or_true, Bool.false_or, Bool.or_false, List.nil_append, List.cons_append, List.append_nil, List.length_cons, List.length_nil, List.length_append, List.length_map, List.replicate_succ, List.replicate_zero, List.all_cons, List.all_nil, if_true, if_false, ite_true, ite_false, Nat.sub_self, Nat.reduceAdd, Nat.reduceSub, Nat.reduceLeDiff, Nat.reduceLT, List.take_succ_cons, List.take_zero, true_and, and_true, not_true, not_false_eq_true, and_self, List.nodup_nil, List.nodup_cons, List.mem_cons, List.not_mem_nil, or_false, false_or, List.map_cons, List.map_nil, List.map_append, Bool.decide_eq_true, Nat.zero_le, Bool.cond_true, Bool.cond_false, ↓reduceIte, reduceCtorEq, Int.reduceLT, Int.reduceLE, Int.reduceNeg, Int.reduceAdd, Int.reduceMul, Int.reduceSub, Int.reduceEq, Nat.reduceEqDiff, Nat.zero_add, id, decide_eq_true, decide_eq_false, n1], ?_, .fz (.int (0 + (k : Nat))), rfl, rfl⟩
    simp -implicitDefEqProofs only [kR_r1, kR_r2, kR_r3d, intsD, mFor_ap, kForS_ap, addF_ii, addF_tt, addF_ll, addF_ss, mulF_ii, mulF_tt, mulF_ll, subF_ii, ltF_ii, leF_ii, gtF_ii, geF_ii, modF_ii, divF_ii, powF_ii, cutD_lo, cutD_hi, cutD_mid, cutD_m1, mYes_ap, truD, isi_set_int, isi_set_bool, isi_set_tuple, isi_set_list, isi_set_str, isi_set_dict, mLc_ap, allF_f, anyF_f, isi_non_int, isi_bl_int, isi_int_int, isi_str_int, isi_tup_int, isi_lst_int, isi_dK_int, isi_dT_int, isi_non_bool, isi_bl_bool, isi_int_bool, isi_str_bool, isi_tup_bool, isi_lst_bool, isi_dK_bool, isi_dT_bool, isi_non_tuple, isi_bl_tuple, isi_int_tuple, isi_str_tuple, isi_tup_tuple, isi_lst_tuple, isi_dK_tuple, isi_dT_tuple, isi_non_list, isi_bl_list, isi_int_list, isi_str_list, isi_tup_list, isi_lst_list, isi_dK_list, isi_dT_list, isi_non_str, isi_bl_str, isi_int_str, isi_str_str, isi_tup_str, isi_lst_str, isi_dK_str, isi_dT_str, isi_non_dict, isi_bl_dict, isi_int_dict, isi_str_dict, isi_tup_dict, isi_lst_dict, isi_dK_dict, isi_dT_dict, eqF_int, neF_int, eqF_bl, neF_bl, eqF_T, neF_T, eqF_Tm, neF_Tm, bndR_ok, bndR_none, bnd_ap, ret_ap, stuck_ap, mVar_ap, kVar_fz, kVar_ow, kVar_io, mC_ap, content_val, content_new, content_bor, slD_fz, slD_ow, slD_io, rv_f, rv_t, val_eq, new_eq, kRz_some, kRz_none, kP1_some, prim1_ap, kP2_some, prim2_ap, mBin_ap, kBin_ap, kBin2_ap, mUn_ap, kUn_ap, mTest_ap, kTest_ap, mTruth_ap, kTruth_ap, kTru_some, mNotT_ap, kNot_ap, mAndT_ap, mOrT_ap, kAnd_t, kAnd_f, kOr_t, kOr_f, mIf_ap, mIte_ap, kIf_t, kIf_f, mAndV_ap, mOrV_ap, kAndV_t, kAndV_f, kOrV_t, kOrV_f, mChain_ap, kCh1_ap, kCh2_ap, kCh3_ap, kLink_t, kLink_f, mChain3_ap, kC31_ap, kC32_ap, settle_val, settle_new, settle_bor, kSl_fz, kSl_ow, kOk_some, mD_ap, kD_ap, mCons_ap, kCons1_ap, kCons2_ap, mNil_ap, mStar_ap, kStar_ap, kStar1_some, kStar2_ap, mTup_ap, mLst_ap, kTup_ok, kLst_ok, mDict0_ap, mNoPart_ap, mPart_ap, kPart_ap, mSl_ap, kS1_ap, kS2_ap, kS3_ap, kS4_some, mRNil_ap, mRCons_ap, kR1_ap, kR2_ap, contents_nil, contents_cons, kCts_some, mCallB_ap, kCB_ap, kCB1_some, mArg_ap, kArg_f, kArg_val, kArg_new, kArg_bor, kArB_ow, kArB_io, mANil_ap, mACons_ap, kA1_ap, kA2_ap, mCall_ap, kCall_ap, kCall1_some, kFin_ok, owned_ow, owned_io, owned_fz, slsOf_nil, slsOf_pl, slsOf_tp, slsOf_ob, kOb_some, back_nil, back_pl, back_tp, back_ob, obs_nil, obs_pl, obs_tp, obs_ob, tps_nil, tps_pl, tps_tp, tps_ob, setOwn_ap, kSO_ow, kSO_io, mMut_ap, kMut0_some, kMut_some, mHas_ap, kHas_lst, mAppend_ap, kApp_ap, mPop_ap, mExtend_ap, kExt_ap, kExt1_some, appF_ok, extF_ok, popF_snoc, mSeq_ap, kSeq_nx, kSeq_rt, kSeq_bk, kSeq_ct, mSkip_ap, mBrk_ap, mCnt_ap, mExpr_ap, kDrop_ap, mRet_ap, kRet_val, kRet_new, kRet_bor, kRetB_fz, kRetB_ow, mRetN_ap, kNx_some, mSet_ap, kSet_ap, setSl_ap, kSS_no, kSS_fz, kSS_ow, kSS_pl, z1, z2, z3, z4, z5, z6, z7, z8, z9, z10, z11, z12, z13, z14, z15, z16, z17, z18, z19, z20, ixF_lst0, ixF_lst1, ixF_lst2, ixF_lst3, ixF_lstm, ixF_tup0, ixF_tup1, ixF_tup2, ixF_tup3, ixF_tupm, ixF_rol0, ixF_rol1, ixF_rol2, ixF_rol3, ixF_rolm, setF_0, setF_1, setF_2, setF_3, putRv_val, putRv_new, putRv_bor, noIo_no, noIo_fz, noIo_ow, mAsg_ap, kAsg_ap, gNm_ap, gTp_ap, gsNil_ap, gsCons_ap, mSt_ap, kSt_val, kSt_new, kSt_bor, mPNil_ap, mPCons_ap, kPC1_ap, mPar_ap, kPar_ap, putN_nil, putN_cons, mAug_ap, kAug_fz, kAug1_ap, mSetIx_ap, kIx_ap, kIx1_some, kIx2_ap, kIx3_some, kIx5_some, kIx4_some, setF_ok, mTurn_ap, kTurn_nx, kTurn_ct, kTurn_bk, kTurn_rt, kWh_t, kWh_f, forF_nil, kFor_some, semFn_ap, kFn_rt, kFn_nx, plain_fz, plain_io, mItems_ap, kIt_val, kIt_new, kIt_bor, kItB_fz, kItB_ow, kItB_io, kSrc_some, items_tup, items_lst, items_rol, mRng_ap, kRn_ap, kR_some, plainArg, val, new, negF, notF, lenF, absF, intF, boolF, max2F, min2F, tupleF, listF, fI, fI0, slF, isL, Rz.rv, eq_self, List.getElem?_cons_succ, List.getElem?_cons_zero, List.set_cons_succ, List.set_cons_zero, Option.map_some, Option.map_none, Option.bind_some, decide_true, decide_false, decide_not, Bool.not_true, Bool.not_false, Bool.true_and, Bool.and_true, Bool.false_and, Bool.and_false, Bool.true_or, Bool.or_true, Bool.false_or, Bool.or_false, List.nil_append, List.cons_append, List.append_nil, List.length_cons, List.length_nil, List.length_append, List.length_map, List.replicate_succ, List.replicate_zero, List.all_cons, List.all_nil, if_true, if_false, ite_true, ite_false, Nat.sub_self, Nat.reduceAdd, Nat.reduceSub, Nat.reduceLeDiff, Nat.reduceLT, List.take_succ_cons, List.take_zero, true_and, and_true, not_true, not_false_eq_true, and_self, List.nodup_nil, List.nodup_cons, List.mem_cons, List.not_mem_nil, or_false, false_or, List.map_cons, List.map_nil, List.map_append, Bool.decide_eq_true, Nat.zero_le, Bool.cond_true, Bool.cond_false, ↓reduceIte, reduceCtorEq, Int.reduceLT, Int.reduceLE, Int.reduceNeg, Int.reduceAdd, Int.reduceMul, Int.reduceSub, Int.reduceEq, Nat.reduceEqDiff, Nat.zero_add, id, w_law_1_ap, e1, e2]
  have n1 := noIo_pl p1
  have tr : Trm [0, -1, 0, 1, 1, 0, -1, 1, -1, 1] := ⟨by decide, by decide, by decide⟩
  have a1 := is_term_ok (d := .tup ([0, -1, 0, 1, 1, 0, -1, 1, -1, 1].map .int)) (okV_T _).1 (okV_T _).2
  have a2 := is_term_ok (d := .tup ([0, 1].map .int)) (okV_T _).1 (okV_T _).2
  have a3 := is_term_ok (d := .tup ([0, -1, 1, 2].map .int)) (okV_T _).1 (okV_T _).2
  have a4 := is_term_ok (d := .tup ([1, 0, 1].map .int)) (okV_T _).1 (okV_T _).2
  have a5 := is_term_ok (d := .tup ([-1, 1, 0, 2].map .int)) (okV_T _).1 (okV_T _).2
  rw [show isT (.tup ([0, -1, 0, 1, 1, 0, -1, 1, -1, 1].map .int)) = true by decide +kernel] at a1
  rw [show isT (.tup ([0, 1].map .int)) = false by decide +kernel] at a2
  rw [show isT (.tup ([0, -1, 1, 2].map .int)) = true by decide +kernel] at a3
  rw [show isT (.tup ([1, 0, 1].map .int)) = false by decide +kernel] at a4
  rw [show isT (.tup ([-1, 1, 0, 2].map .int)) = false by decide +kernel] at a5
  have a6 := part_end_ok (p := 1) tr (by decide)
  have a7 := part_of_ok (p := 5) tr (by decide)
  rw [show pend [0, -1, 0, 1, 1, 0, -1, 1, -1, 1] 1 = 5 by decide +kernel] at a6
  rw [show prt [0, -1, 0, 1, 1, 0, -1, 1, -1, 1] 5 = [0, -1, 1, -1, 1] by decide +kernel] at a7
  simp only [List.map_cons, List.map_nil, Int.cast_ofNat_Int] at a1 a2 a3 a4 a5 a6 a7
  have b1 : neF (.lst [.bl true, .bl false, .bl true, .int 5, .tup [.int 0, .int (-1), .int 1, .int (-1), .int 1]]) (.lst [.bl true, .bl false, .bl true, .int 5, .tup [.int 0, .int (-1), .int 1, .int (-1), .int 1]]) = val (.bl (!true)) := eqv_ne (by decide +kernel) (by decide +kernel) (by decide +kernel)
  have b2 : eqF (.tup [.int 400, .int 1000]) (.tup [.int 400, .int 1000]) = val (.bl true) := eqv_eq (by decide +kernel) (by decide +kernel) (by decide +kernel)
  have i1 : -(2 ^ 62) ≤ (if 1 < (if (ns.length : Int) < 3 then (ns.length : Int) else 3) then (if (ns.length : Int) < 3 then (ns.length : Int) else 3) else 1) := by split <;> (try split) <;> omega
  have i2 : (if 1 < (if (ns.length : Int) < 3 then (ns.length : Int) else 3) then (if (ns.length : Int) < 3 then (ns.length : Int) else 3) else 1) < 2 ^ 62 := by split <;> (try split) <;> omega
  refine ⟨?e, ?g⟩
  case g =>
    simp -implicitDefEqProofs (disch := first | assumption | (have := szL; omega) | (simp -implicitDefEqProofs only [len_rep, Nat.mul_one, Nat.reduceMul, Int.toNat_natCast, List.length_cons, List.length_nil, List.length_append, List.length_map, List.length_take, List.length_drop, List.length_replicate, noIo_no, noIo_fz, noIo_ow, plain_fz, plain_io, List.all_cons, List.all_nil, Bool.and_true, Bool.true_and, and_self, and_true, true_and, eq_self, ne_eq, not_false_eq_true, reduceCtorEq, Nat.zero_le, Nat.reduceAdd, Nat.zero_add, gt_iff_lt, i1, i2, q1, n1, a1, a2, a3, a4, a5, a6, a7, b1, b2]; done) | (simp -implicitDefEqProofs only [len_rep, Nat.mul_one, Nat.reduceMul, Int.toNat_natCast, List.length_cons, List.length_nil, List.length_append, List.length_map, List.length_take, List.length_drop, List.length_replicate, noIo_no, noIo_fz, noIo_ow, plain_fz, plain_io, List.all_cons, List.all_nil, Bool.and_true, Bool.true_and, and_self, and_true, true_and, eq_self, ne_eq, not_false_eq_true, reduceCtorEq, Nat.zero_le, Nat.reduceAdd, Nat.zero_add, gt_iff_lt, i1, i2, q1, n1, a1, a2, a3, a4, a5, a6, a7, b1, b2]; have := szL; omega)) only [kR_r1, kR_r2, kR_r3d, intsD, mFor_ap, kForS_ap, addF_ii, addF_tt, addF_ll, addF_ss, mulF_ii, mulF_tt, mulF_ll, subF_ii, ltF_ii, leF_ii, gtF_ii, geF_ii, modF_ii, divF_ii, powF_ii, cutD_lo, cutD_hi, cutD_mid, cutD_m1, mYes_ap, truD, isi_set_int, isi_set_bool, isi_set_tuple, isi_set_list, isi_set_str, isi_set_dict, mLc_ap, allF_f, anyF_f, isi_non_int, isi_bl_int, isi_int_int, isi_str_int, isi_tup_int, isi_lst_int, isi_dK_int, isi_dT_int, isi_non_bool, isi_bl_bool, isi_int_bool, isi_str_bool, isi_tup_bool, isi_lst_bool, isi_dK_bool, isi_dT_bool, isi_non_tuple, isi_bl_tuple, isi_int_tuple, isi_str_tuple, isi_tup_tuple, isi_lst_tuple, isi_dK_tuple, isi_dT_tuple, isi_non_list, isi_bl_list, isi_int_list, isi_str_list, isi_tup_list, isi_lst_list, isi_dK_list, isi_dT_list, isi_non_str, isi_bl_str, isi_int_str, isi_str_str, isi_tup_str, isi_lst_str, isi_dK_str, isi_dT_str, isi_non_dict, isi_bl_dict, isi_int_dict, isi_str_dict, isi_tup_dict, isi_lst_dict, isi_dK_dict, isi_dT_dict, eqF_int, neF_int, eqF_bl, neF_bl, eqF_T, neF_T, eqF_Tm, neF_Tm, bndR_ok, bndR_none, bnd_ap, ret_ap, stuck_ap, mVar_ap, kVar_fz, kVar_ow, kVar_io, mC_ap, content_val, content_new, content_bor, slD_fz, slD_ow, slD_io, rv_f, rv_t, val_eq, new_eq, kRz_some, kRz_none, kP1_some, prim1_ap, kP2_some, prim2_ap, mBin_ap, kBin_ap, kBin2_ap, mUn_ap, kUn_ap, mTest_ap, kTest_ap, mTruth_ap, kTruth_ap, kTru_some, mNotT_ap, kNot_ap, mAndT_ap, mOrT_ap, kAnd_t, kAnd_f, kOr_t, kOr_f, mIf_ap, mIte_ap, kIf_t, kIf_f, mAndV_ap, mOrV_ap, kAndV_t, kAndV_f, kOrV_t, kOrV_f, mChain_ap, kCh1_ap, kCh2_ap, kCh3_ap, kLink_t, kLink_f, mChain3_ap, kC31_ap, kC32_ap, settle_val, settle_new, settle_bor, kSl_fz, kSl_ow, kOk_some, mD_ap, kD_ap, mCons_ap, kCons1_ap, kCons2_ap, mNil_ap, mStar_ap, kStar_ap, kStar1_some, kStar2_ap, mTup_ap, mLst_ap, kTup_ok, kLst_ok, mDict0_ap, mNoPart_ap, mPart_ap, kPart_ap, mSl_ap, kS1_ap, kS2_ap, kS3_ap, kS4_some, mRNil_ap, mRCons_ap, kR1_ap, kR2_ap, contents_nil, contents_cons, kCts_some, mCallB_ap, kCB_ap, kCB1_some, mArg_ap, kArg_f, kArg_val, kArg_new, kArg_bor, kArB_ow, kArB_io, mANil_ap, mACons_ap, kA1_ap, kA2_ap, mCall_ap, kCall_ap, kCall1_some, kFin_ok, owned_ow, owned_io, owned_fz, slsOf_nil, slsOf_pl, slsOf_tp, slsOf_ob, kOb_some, back_nil, back_pl, back_tp, back_ob, obs_nil, obs_pl, obs_tp, obs_ob, tps_nil, tps_pl, tps_tp, tps_ob, setOwn_ap, kSO_ow, kSO_io, mMut_ap, kMut0_some, kMut_some, mHas_ap, kHas_lst, mAppend_ap, kApp_ap, mPop_ap, mExtend_ap, kExt_ap, kExt1_some, appF_ok, extF_ok, popF_snoc, mSeq_ap, kSeq_nx, kSeq_rt, kSeq_bk, kSeq_ct, mSkip_ap, mBrk_ap, mCnt_ap, mExpr_ap, kDrop_ap, mRet_ap, kRet_val, kRet_new, kRet_bor, kRetB_fz, kRetB_ow, mRetN_ap, kNx_some, mSet_ap, kSet_ap, setSl_ap, kSS_no, kSS_fz, kSS_ow, kSS_pl, z1, z2, z3, z4, z5, z6, z7, z8, z9, z10, z11, z12, z13, z14, z15, z16, z17, z18, z19, z20, ixF_lst0, ixF_lst1, ixF_lst2, ixF_lst3, ixF_lstm, ixF_tup0, ixF_tup1, ixF_tup2, ixF_tup3, ixF_tupm, ixF_rol0, ixF_rol1, ixF_rol2, ixF_rol3, ixF_rolm, setF_0, setF_1, setF_2, setF_3, putRv_val, putRv_new, putRv_bor, noIo_no, noIo_fz, noIo_ow, mAsg_ap, kAsg_ap, gNm_ap, gTp_ap, gsNil_ap, gsCons_ap, mSt_ap, kSt_val, kSt_new, kSt_bor, mPNil_ap, mPCons_ap, kPC1_ap, mPar_ap, kPar_ap, putN_nil, putN_cons, mAug_ap, kAug_fz, kAug1_ap, mSetIx_ap, kIx_ap, kIx1_some, kIx2_ap, kIx3_some, kIx5_some, kIx4_some, setF_ok, mTurn_ap, kTurn_nx, kTurn_ct, kTurn_bk, kTurn_rt, kWh_t, kWh_f, forF_nil, kFor_some, semFn_ap, kFn_rt, kFn_nx, plain_fz, plain_io, mItems_ap, kIt_val, kIt_new, kIt_bor, kItB_fz, kItB_ow, kItB_io, kSrc_some, items_tup, items_lst, items_rol, mRng_ap, kRn_ap, kR_some, plainArg, val, new, negF, notF, lenF, absF, intF, boolF, max2F, min2F, tupleF, listF, fI, fI0, slF, isL, Rz.rv, eq_self, List.getElem?_cons_succ, List.getElem?_cons_zero, List.set_cons_succ, List.set_cons_zero, Option.map_some, Option.map_none, Option.bind_some, decide_true, decide_false, decide_not, Bool.not_true, Bool.not_false, Bool.true_and, Bool.and_true, Bool.false_and, Bool.and_false, Bool.true_or, Bool.or_true, Bool.false_or, Bool.or_false, List.nil_append, List.cons_append, List.append_nil, List.length_cons, List.length_nil, List.length_append, List.length_map, List.replicate_succ, List.replicate_zero, List.all_cons, List.all_nil, if_true, if_false, ite_true, ite_false, Nat.sub_self, Nat.reduceAdd, Nat.reduceSub, Nat.reduceLeDiff, Nat.reduceLT, List.take_succ_cons, List.take_zero, true_and, and_true, not_true, not_false_eq_true, and_self, List.nodup_nil, List.nodup_cons, List.mem_cons, List.not_mem_nil, or_false, false_or, List.map_cons, List.map_nil, List.map_append, Bool.decide_eq_true, Nat.zero_le, Bool.cond_true, Bool.cond_false, ↓reduceIte, reduceCtorEq, Int.reduceLT, Int.reduceLE, Int.reduceNeg, Int.reduceAdd, Int.reduceMul, Int.reduceSub, Int.reduceEq, Nat.reduceEqDiff, Nat.zero_add, id, decide_eq_true, decide_eq_false, s_law, b_law, gt_iff_lt, i1, i2, q1, n1, a1, a2, a3, a4, a5, a6, a7, b1, b2]
    rfl
end PL

namespace PL
open PySem PySem.Spec PyProof.Rows L2
def topS (i : Nat) : Stmt := PySem.Challenge.pw_oncework_k00_whole_terms_and_their_parts.main.body.getD i (.Pass ⟨0, 0, 0, 0⟩)
abbrev d_is_shaped : Stmt := topS 11
abbrev N_is_shaped : List Str := ["codes", "open_slots", "code"]
theorem sc_is_shaped : FnScope N_is_shaped ["codes"] (defScope d_is_shaped) := ⟨rfl, rfl, rfl, by decide +kernel, rfl, by decide +kernel, by decide +kernel⟩
abbrev d_is_whole_number : Stmt := topS 9
abbrev N_is_whole_number : List Str := ["value"]
theorem sc_is_whole_number : FnScope N_is_whole_number ["value"] (defScope d_is_whole_number) := ⟨rfl, rfl, rfl, by decide +kernel, rfl, by decide +kernel, by decide +kernel⟩
abbrev d_is_within : Stmt := topS 10
abbrev N_is_within : List Str := ["value", "least", "most"]
theorem sc_is_within : FnScope N_is_within ["value", "least", "most"] (defScope d_is_within) := ⟨rfl, rfl, rfl, by decide +kernel, rfl, by decide +kernel, by decide +kernel⟩
abbrev d_is_term_in : Stmt := topS 12
abbrev N_is_term_in : List Str := ["value", "code"]
theorem sc_is_term_in : FnScope N_is_term_in ["value"] (defScope d_is_term_in) := ⟨rfl, rfl, rfl, by decide +kernel, rfl, by decide +kernel, by decide +kernel⟩
abbrev d_is_term : Stmt := topS 19
abbrev N_is_term : List Str := ["value"]
theorem sc_is_term : FnScope N_is_term ["value"] (defScope d_is_term) := ⟨rfl, rfl, rfl, by decide +kernel, rfl, by decide +kernel, by decide +kernel⟩
abbrev d_require_term : Stmt := topS 16
abbrev N_require_term : List Str := ["value"]
theorem sc_require_term : FnScope N_require_term ["value"] (defScope d_require_term) := ⟨rfl, rfl, rfl, by decide +kernel, rfl, by decide +kernel, by decide +kernel⟩
abbrev d_is_place_in : Stmt := topS 13
abbrev N_is_place_in : List Str := ["term", "value"]
theorem sc_is_place_in : FnScope N_is_place_in ["term", "value"] (defScope d_is_place_in) := ⟨rfl, rfl, rfl, by decide +kernel, rfl, by decide +kernel, by decide +kernel⟩
abbrev d_require_place : Stmt := topS 17
abbrev N_require_place : List Str := ["term", "place"]
theorem sc_require_place : FnScope N_require_place ["term", "place"] (defScope d_require_place) := ⟨rfl, rfl, rfl, by decide +kernel, rfl, by decide +kernel, by decide +kernel⟩
abbrev d_require_term_place : Stmt := topS 18
abbrev N_require_term_place : List Str := ["term", "place"]
theorem sc_require_term_place : FnScope N_require_term_place ["term", "place"] (defScope d_require_term_place) := ⟨rfl, rfl, rfl, by decide +kernel, rfl, by decide +kernel, by decide +kernel⟩
abbrev d_part_end_in : Stmt := topS 14
abbrev N_part_end_in : List Str := ["term", "place", "open_slots", "here", "code"]
theorem sc_part_end_in : FnScope N_part_end_in ["term", "place"] (defScope d_part_end_in) := ⟨rfl, rfl, rfl, by decide +kernel, rfl, by decide +kernel, by decide +kernel⟩
abbrev d_part_end : Stmt := topS 20
abbrev N_part_end : List Str := ["term", "place"]
theorem sc_part_end : FnScope N_part_end ["term", "place"] (defScope d_part_end) := ⟨rfl, rfl, rfl, by decide +kernel, rfl, by decide +kernel, by decide +kernel⟩
abbrev d_part_in : Stmt := topS 15
abbrev N_part_in : List Str := ["term", "place"]
theorem sc_part_in : FnScope N_part_in ["term", "place"] (defScope d_part_in) := ⟨rfl, rfl, rfl, by decide +kernel, rfl, by decide +kernel, by decide +kernel⟩
abbrev d_part_of : Stmt := topS 21
abbrev N_part_of : List Str := ["term", "place"]
theorem sc_part_of : FnScope N_part_of ["term", "place"] (defScope d_part_of) := ⟨rfl, rfl, rfl, by decide +kernel, rfl, by decide +kernel, by decide +kernel⟩
abbrev d__law_roll : Stmt := topS 24
abbrev N__law_roll : List Str := ["dice", "total", "size", "drawn", "one", "two"]
theorem sc__law_roll : FnScope N__law_roll ["dice", "total"] (defScope d__law_roll) := ⟨rfl, rfl, rfl, by decide +kernel, rfl, by decide +kernel, by decide +kernel⟩
abbrev d__law_term_drawn : Stmt := topS 26
abbrev N__law_term_drawn : List Str := ["dice", "size", "open_count", "found", "todo", "left", "depth", "known", "inner"]
theorem sc__law_term_drawn : FnScope N__law_term_drawn ["dice", "size", "open_count"] (defScope d__law_term_drawn) := ⟨rfl, rfl, rfl, by decide +kernel, rfl, by decide +kernel, by decide +kernel⟩
abbrev d__law_ends : Stmt := topS 25
abbrev N__law_ends : List Str := ["term", "found", "at"]
theorem sc__law_ends : FnScope N__law_ends ["term"] (defScope d__law_ends) := ⟨rfl, rfl, rfl, by decide +kernel, rfl, by decide +kernel, by decide +kernel⟩
abbrev d__law_near_values : Stmt := topS 28
abbrev N__law_near_values : List Str := ["dice", "term", "at", "found", "code"]
theorem sc__law_near_values : FnScope N__law_near_values ["dice", "term"] (defScope d__law_near_values) := ⟨rfl, rfl, rfl, by decide +kernel, rfl, by decide +kernel, by decide +kernel⟩
abbrev d__law_long_values : Stmt := topS 29
abbrev N__law_long_values : List Str := ["dice", "more", "found"]
theorem sc__law_long_values : FnScope N__law_long_values ["dice"] (defScope d__law_long_values) := ⟨rfl, rfl, rfl, by decide +kernel, rfl, by decide +kernel, by decide +kernel⟩
abbrev d__law_is_term : Stmt := topS 27
abbrev N__law_is_term : List Str := ["value", "due", "code"]
theorem sc__law_is_term : FnScope N__law_is_term ["value"] (defScope d__law_is_term) := ⟨rfl, rfl, rfl, by decide +kernel, rfl, by decide +kernel, by decide +kernel⟩
abbrev d__law_right : Stmt := topS 30
abbrev N__law_right : List Str := ["dice", "term", "value", "ends", "turn", "place", "part", "inner"]
theorem sc__law_right : FnScope N__law_right ["dice"] (defScope d__law_right) := ⟨rfl, rfl, rfl, by decide +kernel, rfl, by decide +kernel, by decide +kernel⟩
abbrev d__law_dice : Stmt := topS 23
abbrev N__law_dice : List Str := ["script", "at", "cell", "great", "left", "mixed"]
theorem sc__law_dice : FnScope N__law_dice ["script", "at"] (defScope d__law_dice) := ⟨rfl, rfl, rfl, by decide +kernel, rfl, by decide +kernel, by decide +kernel⟩
abbrev d_law : Stmt := topS 31
abbrev N_law : List Str := ["script", "at", "twice", "told"]
theorem sc_law : FnScope N_law ["script"] (defScope d_law) := ⟨rfl, rfl, rfl, by decide +kernel, rfl, by decide +kernel, by decide +kernel⟩
/-- a def of the text, by where it stands -/
structure DefF (K : PySem.W.Frag) (mg : Str → Option Value) (x : Str) (st : Stmt) (ps : List Str) (f : Addr) (fd : FuncData) : Prop where
  fn : L2.Fun K x x st f fd
  mg : mg x = some (.ref f)
  bi : Binds K fd ps []
structure Txt (K : PySem.W.Frag) (mg : Str → Option Value) : Prop where
  f_is_shaped : ∃ f fd, DefF K mg "is_shaped" d_is_shaped ["codes"] f fd
  f_is_whole_number : ∃ f fd, DefF K mg "is_whole_number" d_is_whole_number ["value"] f fd
  f_is_within : ∃ f fd, DefF K mg "is_within" d_is_within ["value", "least", "most"] f fd
  f_is_term_in : ∃ f fd, DefF K mg "is_term_in" d_is_term_in ["value"] f fd
  f_is_term : ∃ f fd, DefF K mg "is_term" d_is_term ["value"] f fd
  f_require_term : ∃ f fd, DefF K mg "require_term" d_require_term ["value"] f fd
  f_is_place_in : ∃ f fd, DefF K mg "is_place_in" d_is_place_in ["term", "value"] f fd
  f_require_place : ∃ f fd, DefF K mg "require_place" d_require_place ["term", "place"] f fd
  f_require_term_place : ∃ f fd, DefF K mg "require_term_place" d_require_term_place ["term", "place"] f fd
  f_part_end_in : ∃ f fd, DefF K mg "part_end_in" d_part_end_in ["term", "place"] f fd
  f_part_end : ∃ f fd, DefF K mg "part_end" d_part_end ["term", "place"] f fd
  f_part_in : ∃ f fd, DefF K mg "part_in" d_part_in ["term", "place"] f fd
  f_part_of : ∃ f fd, DefF K mg "part_of" d_part_of ["term", "place"] f fd
  f__law_roll : ∃ f fd, DefF K mg "_law_roll" d__law_roll ["dice", "total"] f fd
  f__law_term_drawn : ∃ f fd, DefF K mg "_law_term_drawn" d__law_term_drawn ["dice", "size", "open_count"] f fd
  f__law_ends : ∃ f fd, DefF K mg "_law_ends" d__law_ends ["term"] f fd
  f__law_near_values : ∃ f fd, DefF K mg "_law_near_values" d__law_near_values ["dice", "term"] f fd
  f__law_long_values : ∃ f fd, DefF K mg "_law_long_values" d__law_long_values ["dice"] f fd
  f__law_is_term : ∃ f fd, DefF K mg "_law_is_term" d__law_is_term ["value"] f fd
  f__law_right : ∃ f fd, DefF K mg "_law_right" d__law_right ["dice"] f fd
  f__law_dice : ∃ f fd, DefF K mg "_law_dice" d__law_dice ["script", "at"] f fd
  f_law : ∃ f fd, DefF K mg "law" d_law ["script"] f fd
  n_int : mg "int" = none
  n_isinstance : mg "isinstance" = none
  n_bool : mg "bool" = none
  n_tuple : mg "tuple" = none
  n_len : mg "len" = none
  n_all : mg "all" = none
  n_min : mg "min" = none
  n_range : mg "range" = none
  n_list : mg "list" = none
  n_abs : mg "abs" = none
  n_max : mg "max" = none
  c_CALL : ∃ t, mg "CALL" = some (.int 0 t)
  c_MAX_PARTS : ∃ t, mg "MAX_PARTS" = some (.int 400 t)
  c_MAX_VARIABLE : ∃ t, mg "MAX_VARIABLE" = some (.int 1000 t)
  c_FUNCTION : ∃ t, mg "FUNCTION" = some (.int (-1) t)
/-- a def that does what its semantic term tells -/
def Ok (P : Program) (w : World) (K : PySem.W.Frag) (mg : Str → Option Value) (base : Heap) (k : Nat) (x : Str) (ps : List Str) (sem : Sem') : Prop := ∃ f fd, FnOk P w K mg base CX0 k f fd ps (spM K (fun _ _ _ _ _ => False) sem) ∧ mg x = some (.ref f) ∧ PySem.W.keepIn K (.ref f) = true ∧ Binds K fd ps []
section
variable {P : Program} {w : World} {K : PySem.W.Frag} {mg : Str → Option Value} {base : Heap}
theorem ok_is_shaped (T : Txt K mg) : Ok P w K mg base 1 "is_shaped" ["codes"] s_is_shaped := by
  obtain ⟨f, fd, F⟩ := T.f_is_shaped
  refine ⟨f, fd, def_ok (Ns := N_is_shaped) F.fn sc_is_shaped rfl fun cdv A outer s H E N hr => ?_, F.mg, F.fn.kp, F.bi⟩
  exact sss_cons (ss_set 1 sc_is_shaped.nd (se_int))
      (sss_cons (ss_for PassesOwn.never rfl (si_items (se_var 0)) (sg_name 2 sc_is_shaped.nd) (sss_cons (ss_if (st_cmp (ops_eq hr.units) (se_var 1) (se_int) (nomark _)) (sss_one (ss_ret (se_bl))) (sss_nil))
      (sss_one (ss_if (st_cmp (ops_eq hr.units) (se_var 2) (se_gintX (by rfl) T.c_CALL) (nomark _)) (sss_one (ss_aug 1 sc_is_shaped.nd (se_int) ip_addF)) (sss_one (ss_if (st_cmp ops_gt (se_var 2) (se_gintX (by rfl) T.c_CALL) (nomark _)) (sss_one (ss_aug 1 sc_is_shaped.nd (se_int) ip_subF)) (sss_nil)))))))
      (sss_one (ss_ret (se_cmp (ops_eq hr.units) (se_var 1) (se_int) (nomark _)))))
theorem ok_is_whole_number (T : Txt K mg) : Ok P w K mg base 1 "is_whole_number" ["value"] s_is_whole_number := by
  obtain ⟨f, fd, F⟩ := T.f_is_whole_number
  refine ⟨f, fd, def_ok (Ns := N_is_whole_number) F.fn sc_is_whole_number rfl fun cdv A outer s H E N hr => ?_, F.mg, F.fn.kp, F.bi⟩
  exact sss_one (ss_ret (se_and (se_callB cs_isi (by rfl) T.n_isinstance (by decide +kernel) (sr_cons (se_var 0) (sr_cons (se_ty (by rfl) T.n_int (by decide +kernel)) (sr_nil)))) (se_one (se_not (se_callB cs_isi (by rfl) T.n_isinstance (by decide +kernel) (sr_cons (se_var 0) (sr_cons (se_ty (by rfl) T.n_bool (by decide +kernel)) (sr_nil))))))))
theorem ok_is_within (T : Txt K mg) : Ok P w K mg base 2 "is_within" ["value", "least", "most"] s_is_within := by
  obtain ⟨_, _, G_is_whole_number, m_is_whole_number, k_is_whole_number, b_is_whole_number⟩ := ok_is_whole_number (P := P) (w := w) (base := base) T
  obtain ⟨f, fd, F⟩ := T.f_is_within
  refine ⟨f, fd, def_ok (Ns := N_is_within) F.fn sc_is_within rfl fun cdv A outer s H E N hr => ?_, F.mg, F.fn.kp, F.bi⟩
  exact sss_one (ss_ret (se_and (se_call G_is_whole_number (hr.mono (by decide)) (by rfl) m_is_whole_number k_is_whole_number b_is_whole_number (sar_cons false (se_var 0) (sar_nil))) (se_one (se_chain ops_le ops_le (se_var 1) (se_var 0) (se_var 2)))))
theorem ok_is_term_in (T : Txt K mg) : Ok P w K mg base 3 "is_term_in" ["value"] s_is_term_in := by
  obtain ⟨_, _, G_is_within, m_is_within, k_is_within, b_is_within⟩ := ok_is_within (P := P) (w := w) (base := base) T
  obtain ⟨_, _, G_is_shaped, m_is_shaped, k_is_shaped, b_is_shaped⟩ := ok_is_shaped (P := P) (w := w) (base := base) T
  obtain ⟨f, fd, F⟩ := T.f_is_term_in
  refine ⟨f, fd, def_ok (Ns := N_is_term_in) F.fn sc_is_term_in rfl fun cdv A outer s H E N hr => ?_, F.mg, F.fn.kp, F.bi⟩
  exact sss_cons (ss_if (st_w (sw_or (st_not (st_truth (se_callB cs_isi (by rfl) T.n_isinstance (by decide +kernel) (sr_cons (se_var 0) (sr_cons (se_ty (by rfl) T.n_tuple (by decide +kernel)) (sr_nil)))))) (sw_or1 (st_not (st_chain ops_le ops_le (se_int) (se_callB cs_len (by rfl) T.n_len (by decide +kernel) (sr_cons (se_var 0) (sr_nil))) (se_gintX (by rfl) T.c_MAX_PARTS)))))) (sss_one (ss_ret (se_bl))) (sss_nil))
      (sss_one (ss_ret (se_and (se_callB (cs_all rfl) (by rfl) T.n_all (by decide +kernel) (sr_cons (se_lc rfl sc_is_term_in.nd (si_items (se_var 0)) (blkOk_by (own := [("code", 1)]) (N := N_is_term_in) (sc := defScope d_is_term_in) (by decide +kernel)) (gok_name 1) (fun _ _ _ _ _ => sg_name 1 sc_is_term_in.nd) (fun _ _ _ _ _ => sts_nil) (fun _ _ _ _ _ => se_call G_is_within (hr.mono (by decide)) (by rfl) m_is_within k_is_within b_is_within (sar_cons false (se_var 1) (sar_cons false (se_gintX (by rfl) T.c_FUNCTION) (sar_cons false (se_gintX (by rfl) T.c_MAX_VARIABLE) (sar_nil)))))) (sr_nil))) (se_one (se_call G_is_shaped (hr.mono (by decide)) (by rfl) m_is_shaped k_is_shaped b_is_shaped (sar_cons false (se_var 0) (sar_nil)))))))
theorem ok_is_term (T : Txt K mg) : Ok P w K mg base 4 "is_term" ["value"] s_is_term := by
  obtain ⟨_, _, G_is_term_in, m_is_term_in, k_is_term_in, b_is_term_in⟩ := ok_is_term_in (P := P) (w := w) (base := base) T
  obtain ⟨f, fd, F⟩ := T.f_is_term
  refine ⟨f, fd, def_ok (Ns := N_is_term) F.fn sc_is_term rfl fun cdv A outer s H E N hr => ?_, F.mg, F.fn.kp, F.bi⟩
  exact sss_one (ss_ret (se_call G_is_term_in (hr.mono (by decide)) (by rfl) m_is_term_in k_is_term_in b_is_term_in (sar_cons false (se_var 0) (sar_nil))))
theorem ok_require_term (T : Txt K mg) : Ok P w K mg base 4 "require_term" ["value"] s_require_term := by
  obtain ⟨_, _, G_is_term_in, m_is_term_in, k_is_term_in, b_is_term_in⟩ := ok_is_term_in (P := P) (w := w) (base := base) T
  obtain ⟨f, fd, F⟩ := T.f_require_term
  refine ⟨f, fd, def_ok (Ns := N_require_term) F.fn sc_require_term rfl fun cdv A outer s H E N hr => ?_, F.mg, F.fn.kp, F.bi⟩
  exact sss_one (ss_if (st_not (st_truth (se_call G_is_term_in (hr.mono (by decide)) (by rfl) m_is_term_in k_is_term_in b_is_term_in (sar_cons false (se_var 0) (sar_nil))))) (sss_one (ss_never)) (sss_nil))
theorem ok_is_place_in (T : Txt K mg) : Ok P w K mg base 3 "is_place_in" ["term", "value"] s_is_place_in := by
  obtain ⟨_, _, G_is_within, m_is_within, k_is_within, b_is_within⟩ := ok_is_within (P := P) (w := w) (base := base) T
  obtain ⟨f, fd, F⟩ := T.f_is_place_in
  refine ⟨f, fd, def_ok (Ns := N_is_place_in) F.fn sc_is_place_in rfl fun cdv A outer s H E N hr => ?_, F.mg, F.fn.kp, F.bi⟩
  exact sss_one (ss_ret (se_call G_is_within (hr.mono (by decide)) (by rfl) m_is_within k_is_within b_is_within (sar_cons false (se_var 1) (sar_cons false (se_int) (sar_cons false (se_bin ops_sub (se_callB cs_len (by rfl) T.n_len (by decide +kernel) (sr_cons (se_var 0) (sr_nil))) (se_int)) (sar_nil))))))
theorem ok_require_place (T : Txt K mg) : Ok P w K mg base 4 "require_place" ["term", "place"] s_require_place := by
  obtain ⟨_, _, G_is_place_in, m_is_place_in, k_is_place_in, b_is_place_in⟩ := ok_is_place_in (P := P) (w := w) (base := base) T
  obtain ⟨f, fd, F⟩ := T.f_require_place
  refine ⟨f, fd, def_ok (Ns := N_require_place) F.fn sc_require_place rfl fun cdv A outer s H E N hr => ?_, F.mg, F.fn.kp, F.bi⟩
  exact sss_one (ss_if (st_not (st_truth (se_call G_is_place_in (hr.mono (by decide)) (by rfl) m_is_place_in k_is_place_in b_is_place_in (sar_cons false (se_var 0) (sar_cons false (se_var 1) (sar_nil)))))) (sss_one (ss_never)) (sss_nil))
theorem ok_require_term_place (T : Txt K mg) : Ok P w K mg base 5 "require_term_place" ["term", "place"] s_require_term_place := by
  obtain ⟨_, _, G_require_term, m_require_term, k_require_term, b_require_term⟩ := ok_require_term (P := P) (w := w) (base := base) T
  obtain ⟨_, _, G_require_place, m_require_place, k_require_place, b_require_place⟩ := ok_require_place (P := P) (w := w) (base := base) T
  obtain ⟨f, fd, F⟩ := T.f_require_term_place
  refine ⟨f, fd, def_ok (Ns := N_require_term_place) F.fn sc_require_term_place rfl fun cdv A outer s H E N hr => ?_, F.mg, F.fn.kp, F.bi⟩
  exact sss_cons (ss_expr (se_call G_require_term (hr.mono (by decide)) (by rfl) m_require_term k_require_term b_require_term (sar_cons false (se_var 0) (sar_nil))))
      (sss_one (ss_expr (se_call G_require_place (hr.mono (by decide)) (by rfl) m_require_place k_require_place b_require_place (sar_cons false (se_var 0) (sar_cons false (se_var 1) (sar_nil))))))
theorem ok_part_end_in (T : Txt K mg) : Ok P w K mg base 1 "part_end_in" ["term", "place"] s_part_end_in := by
  obtain ⟨f, fd, F⟩ := T.f_part_end_in
  refine ⟨f, fd, def_ok (Ns := N_part_end_in) F.fn sc_part_end_in rfl fun cdv A outer s H E N hr => ?_, F.mg, F.fn.kp, F.bi⟩
  exact sss_cons (ss_par2 rfl sc_part_end_in.nd (sap_cons (se_int) (sap_cons (se_var 1) (sap_nil))))
      (sss_cons (ss_while PassesOwn.never (st_cmp ops_gt (se_var 2) (se_int) (nomark _)) (sss_cons (ss_set 4 sc_part_end_in.nd (se_ix (se_var 0) (se_var 3)))
      (sss_one (ss_par2 rfl sc_part_end_in.nd (sap_cons (se_bin ops_sub (se_bin ops_add (se_var 2) (se_callTy cs_int (by rfl) T.n_int (by decide +kernel) (sr_cons (se_cmp (ops_eq hr.units) (se_var 4) (se_gintX (by rfl) T.c_CALL) (nomark _)) (sr_nil)))) (se_callTy cs_int (by rfl) T.n_int (by decide +kernel) (sr_cons (se_cmp ops_gt (se_var 4) (se_gintX (by rfl) T.c_CALL) (nomark _)) (sr_nil)))) (sap_cons (se_bin ops_add (se_var 3) (se_int)) (sap_nil)))))))
      (sss_one (ss_ret (se_var 3))))
theorem ok_part_end (T : Txt K mg) : Ok P w K mg base 6 "part_end" ["term", "place"] s_part_end := by
  obtain ⟨_, _, G_require_term_place, m_require_term_place, k_require_term_place, b_require_term_place⟩ := ok_require_term_place (P := P) (w := w) (base := base) T
  obtain ⟨_, _, G_part_end_in, m_part_end_in, k_part_end_in, b_part_end_in⟩ := ok_part_end_in (P := P) (w := w) (base := base) T
  obtain ⟨f, fd, F⟩ := T.f_part_end
  refine ⟨f, fd, def_ok (Ns := N_part_end) F.fn sc_part_end rfl fun cdv A outer s H E N hr => ?_, F.mg, F.fn.kp, F.bi⟩
  exact sss_cons (ss_expr (se_call G_require_term_place (hr.mono (by decide)) (by rfl) m_require_term_place k_require_term_place b_require_term_place (sar_cons false (se_var 0) (sar_cons false (se_var 1) (sar_nil)))))
      (sss_one (ss_ret (se_call G_part_end_in (hr.mono (by decide)) (by rfl) m_part_end_in k_part_end_in b_part_end_in (sar_cons false (se_var 0) (sar_cons false (se_var 1) (sar_nil))))))
theorem ok_part_in (T : Txt K mg) : Ok P w K mg base 2 "part_in" ["term", "place"] s_part_in := by
  obtain ⟨_, _, G_part_end_in, m_part_end_in, k_part_end_in, b_part_end_in⟩ := ok_part_end_in (P := P) (w := w) (base := base) T
  obtain ⟨f, fd, F⟩ := T.f_part_in
  refine ⟨f, fd, def_ok (Ns := N_part_in) F.fn sc_part_in rfl fun cdv A outer s H E N hr => ?_, F.mg, F.fn.kp, F.bi⟩
  exact sss_one (ss_ret (se_slice (se_var 0) (so_some (se_var 1)) (so_some (se_call G_part_end_in (hr.mono (by decide)) (by rfl) m_part_end_in k_part_end_in b_part_end_in (sar_cons false (se_var 0) (sar_cons false (se_var 1) (sar_nil)))))))
theorem ok_part_of (T : Txt K mg) : Ok P w K mg base 6 "part_of" ["term", "place"] s_part_of := by
  obtain ⟨_, _, G_require_term_place, m_require_term_place, k_require_term_place, b_require_term_place⟩ := ok_require_term_place (P := P) (w := w) (base := base) T
  obtain ⟨_, _, G_part_in, m_part_in, k_part_in, b_part_in⟩ := ok_part_in (P := P) (w := w) (base := base) T
  obtain ⟨f, fd, F⟩ := T.f_part_of
  refine ⟨f, fd, def_ok (Ns := N_part_of) F.fn sc_part_of rfl fun cdv A outer s H E N hr => ?_, F.mg, F.fn.kp, F.bi⟩
  exact sss_cons (ss_expr (se_call G_require_term_place (hr.mono (by decide)) (by rfl) m_require_term_place k_require_term_place b_require_term_place (sar_cons false (se_var 0) (sar_cons false (se_var 1) (sar_nil)))))
      (sss_one (ss_ret (se_call G_part_in (hr.mono (by decide)) (by rfl) m_part_in k_part_in b_part_in (sar_cons false (se_var 0) (sar_cons false (se_var 1) (sar_nil))))))
theorem ok__law_roll (T : Txt K mg) : Ok P w K mg base 1 "_law_roll" ["dice", "total"] s__law_roll := by
  obtain ⟨f, fd, F⟩ := T.f__law_roll
  refine ⟨f, fd, def_ok (Ns := N__law_roll) F.fn sc__law_roll rfl fun cdv A outer s H E N hr => ?_, F.mg, F.fn.kp, F.bi⟩
  exact sss_cons (ss_set 2 sc__law_roll.nd (se_callTy cs_int (by rfl) T.n_int (by decide +kernel) (sr_cons (se_var 1) (sr_nil))))
      (sss_cons (ss_if (st_cmp ops_gt (se_ix (se_var 0) (se_int)) (se_int) (nomark _)) (sss_cons (ss_set 3 sc__law_roll.nd (se_bin ops_mod (se_ix (se_var 0) (se_int)) (se_var 2)))
      (sss_cons (ss_setIx 0 (pv 0) (se_int) (se_bin ops_div (se_ix (se_var 0) (se_int)) (se_var 2)))
      (sss_one (ss_ret (se_callTy cs_int (by rfl) T.n_int (by decide +kernel) (sr_cons (se_var 3) (sr_nil))))))) (sss_nil))
      (sss_cons (ss_setIx 0 (pv 0) (se_int) (se_bin ops_add (se_ix (se_var 0) (se_int)) (se_int)))
      (sss_cons (ss_set 4 sc__law_roll.nd (se_bin ops_mod (se_bin ops_add (se_ix (se_var 0) (se_int)) (se_bin ops_mul (se_int) (se_ix (se_var 0) (se_int)))) (se_int)))
      (sss_cons (ss_set 5 sc__law_roll.nd (se_bin ops_add (se_bin ops_mul (se_bin ops_mod (se_bin ops_mul (se_var 4) (se_var 4)) (se_int)) (se_var 4)) (se_bin ops_mul (se_int) (se_ix (se_var 0) (se_int)))))
      (sss_cons (ss_set 5 sc__law_roll.nd (se_bin ops_mod (se_var 5) (se_int)))
      (sss_one (ss_ret (se_callTy cs_int (by rfl) T.n_int (by decide +kernel) (sr_cons (se_bin ops_mod (se_bin ops_div (se_var 5) (se_int)) (se_var 2)) (sr_nil))))))))))
theorem ok__law_term_drawn (T : Txt K mg) : Ok P w K mg base 2 "_law_term_drawn" ["dice", "size", "open_count"] s__law_term_drawn := by
  obtain ⟨_, _, G__law_roll, m__law_roll, k__law_roll, b__law_roll⟩ := ok__law_roll (P := P) (w := w) (base := base) T
  obtain ⟨f, fd, F⟩ := T.f__law_term_drawn
  refine ⟨f, fd, def_ok (Ns := N__law_term_drawn) F.fn sc__law_term_drawn rfl fun cdv A outer s H E N hr => ?_, F.mg, F.fn.kp, F.bi⟩
  exact sss_cons (ss_par2 rfl sc__law_term_drawn.nd (sap_cons (se_lst (sa_nil)) (sap_cons (se_lst (sa_cons (se_tup (sa_cons (se_var 1) (sa_cons (se_int) (sa_nil)))) (sa_nil))) (sap_nil))))
      (sss_cons (ss_while PassesOwn.never (st_cmp (ops_ne hr.units) (se_var 4) (se_lst (sa_nil)) (nomark _)) (sss_cons (ss_asg (se_pop 4 (pv 4)) (sg_tup rfl (sgs_cons (sg_name 5 sc__law_term_drawn.nd) (sgs_cons (sg_name 6 sc__law_term_drawn.nd) (sgs_nil)))))
      (sss_cons (ss_set 7 sc__law_term_drawn.nd (se_bin ops_add (se_var 6) (se_var 2)))
      (sss_one (ss_if (st_w (sw_and (st_cmp ops_le (se_var 5) (se_int) (nomark _)) (sw_and1 (st_cmp ops_gt (se_var 7) (se_int) (nomark _))))) (sss_one (ss_expr (se_append 3 (pv 3) (se_bin ops_add (se_int) (se_callB (cs_min2 rfl) (by rfl) T.n_min (by decide +kernel) (sr_cons (se_call G__law_roll (hr.mono (by decide)) (by rfl) m__law_roll k__law_roll b__law_roll (sar_cons true (se_var 0) (sar_cons false (se_var 7) (sar_nil)))) (sr_cons (se_call G__law_roll (hr.mono (by decide)) (by rfl) m__law_roll k__law_roll b__law_roll (sar_cons true (se_var 0) (sar_cons false (se_var 7) (sar_nil)))) (sr_nil)))))))) (sss_one (ss_if (st_w (sw_or (st_cmp ops_le (se_var 5) (se_int) (nomark _)) (sw_or1 (st_w (sw_and (st_cmp (ops_eq hr.units) (se_var 7) (se_int) (nomark _)) (sw_and1 (st_cmp ops_lt (se_var 5) (se_int) (nomark _)))))))) (sss_cons (ss_expr (se_append 3 (pv 3) (se_negc)))
      (sss_one (ss_expr (se_append 4 (pv 4) (se_tup (sa_cons (se_bin ops_sub (se_var 5) (se_int)) (sa_cons (se_bin ops_add (se_var 6) (se_int)) (sa_nil)))))))) (sss_one (ss_if (st_w (sw_and (st_cmp ops_ge (se_var 5) (se_int) (nomark _)) (sw_and1 (st_cmp ops_lt (se_call G__law_roll (hr.mono (by decide)) (by rfl) m__law_roll k__law_roll b__law_roll (sar_cons true (se_var 0) (sar_cons false (se_int) (sar_nil)))) (se_int) (nomark _))))) (sss_cons (ss_set 8 sc__law_term_drawn.nd (se_bin ops_add (se_int) (se_call G__law_roll (hr.mono (by decide)) (by rfl) m__law_roll k__law_roll b__law_roll (sar_cons true (se_var 0) (sar_cons false (se_bin ops_sub (se_var 5) (se_int)) (sar_nil))))))
      (sss_cons (ss_expr (se_extend 3 (pv 3) (se_lst (sa_cons (se_int) (sa_cons (se_negc) (sa_nil))))))
      (sss_one (ss_expr (se_extend 4 (pv 4) (se_lst (sa_cons (se_tup (sa_cons (se_bin ops_sub (se_bin ops_sub (se_var 5) (se_int)) (se_var 8)) (sa_cons (se_var 6) (sa_nil)))) (sa_cons (se_tup (sa_cons (se_var 8) (sa_cons (se_bin ops_add (se_var 6) (se_int)) (sa_nil)))) (sa_nil))))))))) (sss_one (ss_if (st_cmp (ops_eq hr.units) (se_call G__law_roll (hr.mono (by decide)) (by rfl) m__law_roll k__law_roll b__law_roll (sar_cons true (se_var 0) (sar_cons false (se_int) (sar_nil)))) (se_int) (nomark _)) (sss_cons (ss_expr (se_append 3 (pv 3) (se_negc)))
      (sss_one (ss_expr (se_append 4 (pv 4) (se_tup (sa_cons (se_bin ops_sub (se_var 5) (se_int)) (sa_cons (se_bin ops_add (se_var 6) (se_int)) (sa_nil)))))))) (sss_cons (ss_set 8 sc__law_term_drawn.nd (se_bin ops_add (se_int) (se_call G__law_roll (hr.mono (by decide)) (by rfl) m__law_roll k__law_roll b__law_roll (sar_cons true (se_var 0) (sar_cons false (se_bin ops_sub (se_var 5) (se_int)) (sar_nil))))))
      (sss_cons (ss_expr (se_append 3 (pv 3) (se_int)))
      (sss_one (ss_expr (se_extend 4 (pv 4) (se_lst (sa_cons (se_tup (sa_cons (se_bin ops_sub (se_bin ops_sub (se_var 5) (se_int)) (se_var 8)) (sa_cons (se_var 6) (sa_nil)))) (sa_cons (se_tup (sa_cons (se_var 8) (sa_cons (se_var 6) (sa_nil)))) (sa_nil))))))))))))))))))))
      (sss_one (ss_ret (se_callTy cs_tuple (by rfl) T.n_tuple (by decide +kernel) (sr_cons (se_var 3) (sr_nil))))))
theorem ok__law_ends (T : Txt K mg) : Ok P w K mg base 1 "_law_ends" ["term"] s__law_ends := by
  obtain ⟨f, fd, F⟩ := T.f__law_ends
  refine ⟨f, fd, def_ok (Ns := N__law_ends) F.fn sc__law_ends rfl fun cdv A outer s H E N hr => ?_, F.mg, F.fn.kp, F.bi⟩
  exact sss_cons (ss_set 1 sc__law_ends.nd (se_bin ops_mul (se_lst (sa_cons (se_int) (sa_nil))) (se_callB cs_len (by rfl) T.n_len (by decide +kernel) (sr_cons (se_var 0) (sr_nil)))))
      (sss_cons (ss_for PassesOwn.never rfl (si_range3 (by rfl) T.n_range (sa_cons (se_bin ops_sub (se_callB cs_len (by rfl) T.n_len (by decide +kernel) (sr_cons (se_var 0) (sr_nil))) (se_int)) (sa_cons (se_negc) (sa_cons (se_negc) (sa_nil))))) (sg_name 2 sc__law_ends.nd) (sss_one (ss_if (st_cmp ops_gt (se_ix (se_var 0) (se_var 2)) (se_int) (nomark _)) (sss_one (ss_setIx 1 (pv 1) (se_var 2) (se_bin ops_add (se_var 2) (se_int)))) (sss_one (ss_if (st_cmp ops_lt (se_ix (se_var 0) (se_var 2)) (se_int) (nomark _)) (sss_one (ss_setIx 1 (pv 1) (se_var 2) (se_ix (se_var 1) (se_bin ops_add (se_var 2) (se_int))))) (sss_one (ss_setIx 1 (pv 1) (se_var 2) (se_ix (se_var 1) (se_ix (se_var 1) (se_bin ops_add (se_var 2) (se_int)))))))))))
      (sss_one (ss_ret (se_var 1))))
theorem ok__law_near_values (T : Txt K mg) : Ok P w K mg base 2 "_law_near_values" ["dice", "term"] s__law_near_values := by
  obtain ⟨_, _, G__law_roll, m__law_roll, k__law_roll, b__law_roll⟩ := ok__law_roll (P := P) (w := w) (base := base) T
  obtain ⟨f, fd, F⟩ := T.f__law_near_values
  refine ⟨f, fd, def_ok (Ns := N__law_near_values) F.fn sc__law_near_values rfl fun cdv A outer s H E N hr => ?_, F.mg, F.fn.kp, F.bi⟩
  exact sss_cons (ss_par2 rfl sc__law_near_values.nd (sap_cons (se_call G__law_roll (hr.mono (by decide)) (by rfl) m__law_roll k__law_roll b__law_roll (sar_cons true (se_var 0) (sar_cons false (se_callB cs_len (by rfl) T.n_len (by decide +kernel) (sr_cons (se_var 1) (sr_nil))) (sar_nil)))) (sap_cons (se_lst (sa_cons (se_var 1) (sa_cons (se_callTy cs_list (by rfl) T.n_list (by decide +kernel) (sr_cons (se_var 1) (sr_nil))) (sa_cons (se_tup (sa_cons (se_var 1) (sa_nil))) (sa_cons (se_slice (se_var 1) (so_some (se_int)) (so_none)) (sa_cons (se_slice (se_var 1) (so_none) (so_some (se_negc))) (sa_cons (se_bin ops_add (se_var 1) (se_tup (sa_cons (se_int) (sa_nil)))) (sa_cons (se_bin ops_add (se_tup (sa_cons (se_int) (sa_nil))) (se_var 1)) (sa_nil))))))))) (sap_nil))))
      (sss_cons (ss_for PassesOwn.never rfl (si_items (se_tup (sa_cons (se_negc) (sa_cons (se_negc) (sa_cons (se_int) (sa_cons (se_int) (sa_cons (se_int) (sa_cons (se_int) (sa_cons (se_bl) (sa_cons (se_bl) (sa_cons (se_non) (sa_cons (se_str) (sa_cons (se_bin ops_pow (se_int) (se_int)) (sa_cons (se_tup (sa_cons (se_int) (sa_nil))) (sa_cons (se_bin ops_add (se_int) (se_call G__law_roll (hr.mono (by decide)) (by rfl) m__law_roll k__law_roll b__law_roll (sar_cons true (se_var 0) (sar_cons false (se_int) (sar_nil))))) (sa_nil)))))))))))))))) (sg_name 4 sc__law_near_values.nd) (sss_one (ss_expr (se_append 3 (pv 3) (se_bin ops_add (se_bin ops_add (se_slice (se_var 1) (so_none) (so_some (se_var 2))) (se_tup (sa_cons (se_var 4) (sa_nil)))) (se_slice (se_var 1) (so_some (se_bin ops_add (se_var 2) (se_int))) (so_none)))))))
      (sss_cons (ss_set 3 sc__law_near_values.nd (se_bin ops_add (se_var 3) (se_lst (sa_cons (se_bin ops_add (se_slice (se_var 1) (so_none) (so_some (se_var 2))) (se_slice (se_var 1) (so_some (se_bin ops_add (se_var 2) (se_int))) (so_none))) (sa_cons (se_bin ops_add (se_bin ops_add (se_slice (se_var 1) (so_none) (so_some (se_var 2))) (se_tup (sa_cons (se_int) (sa_nil)))) (se_slice (se_var 1) (so_some (se_var 2)) (so_none))) (sa_cons (se_bin ops_add (se_tup (sa_cons (se_negc) (sa_nil))) (se_var 1)) (sa_cons (se_bin ops_add (se_var 1) (se_var 1)) (sa_nil))))))))
      (sss_cons (ss_expr (se_append 3 (pv 3) (se_bin ops_add (se_bin ops_add (se_tup (sa_cons (se_int) (sa_nil))) (se_var 1)) (se_var 1))))
      (sss_one (ss_ret (se_bin ops_add (se_var 3) (se_lst (sa_cons (se_tup (sa_nil)) (sa_cons (se_non) (sa_cons (se_int) (sa_cons (se_str) (sa_cons (se_dict0) (sa_cons (se_lst (sa_nil)) (sa_cons (se_tup (sa_cons (se_int) (sa_nil))) (sa_cons (se_tup (sa_cons (se_negc) (sa_nil))) (sa_cons (se_tup (sa_cons (se_int) (sa_nil))) (sa_cons (se_tup (sa_cons (se_int) (sa_cons (se_int) (sa_nil)))) (sa_nil))))))))))))))))))
theorem ok__law_long_values (T : Txt K mg) : Ok P w K mg base 2 "_law_long_values" ["dice"] s__law_long_values := by
  obtain ⟨_, _, G__law_roll, m__law_roll, k__law_roll, b__law_roll⟩ := ok__law_roll (P := P) (w := w) (base := base) T
  obtain ⟨f, fd, F⟩ := T.f__law_long_values
  refine ⟨f, fd, def_ok (Ns := N__law_long_values) F.fn sc__law_long_values rfl fun cdv A outer s H E N hr => ?_, F.mg, F.fn.kp, F.bi⟩
  exact sss_cons (ss_set 1 sc__law_long_values.nd (se_bin ops_add (se_int) (se_call G__law_roll (hr.mono (by decide)) (by rfl) m__law_roll k__law_roll b__law_roll (sar_cons true (se_var 0) (sar_cons false (se_int) (sar_nil))))))
      (sss_cons (ss_set 2 sc__law_long_values.nd (se_lst (sa_cons (se_bin ops_add (se_bin ops_mul (se_tup (sa_cons (se_negc) (sa_nil))) (se_var 1)) (se_tup (sa_cons (se_int) (sa_nil)))) (sa_cons (se_bin ops_add (se_bin ops_mul (se_tup (sa_cons (se_int) (sa_nil))) (se_bin ops_div (se_var 1) (se_int))) (se_bin ops_mul (se_tup (sa_cons (se_int) (sa_nil))) (se_bin ops_add (se_bin ops_div (se_var 1) (se_int)) (se_int)))) (sa_nil)))))
      (sss_cons (ss_expr (se_append 2 (pv 2) (se_bin ops_add (se_bin ops_mul (se_tup (sa_cons (se_int) (sa_cons (se_negc) (sa_nil)))) (se_bin ops_div (se_var 1) (se_int))) (se_bin ops_mul (se_tup (sa_cons (se_int) (sa_nil))) (se_bin ops_add (se_bin ops_div (se_var 1) (se_int)) (se_int))))))
      (sss_one (ss_ret (se_bin ops_add (se_var 2) (se_lst (sa_cons (se_bin ops_add (se_bin ops_mul (se_tup (sa_cons (se_int) (sa_cons (se_int) (sa_nil)))) (se_int)) (se_tup (sa_cons (se_int) (sa_nil)))) (sa_cons (se_bin ops_add (se_bin ops_mul (se_tup (sa_cons (se_int) (sa_cons (se_int) (sa_nil)))) (se_int)) (se_tup (sa_cons (se_int) (sa_nil)))) (sa_cons (se_bin ops_add (se_bin ops_mul (se_tup (sa_cons (se_int) (sa_cons (se_negc) (sa_cons (se_int) (sa_nil))))) (se_int)) (se_tup (sa_cons (se_int) (sa_nil)))) (sa_cons (se_bin ops_add (se_bin ops_mul (se_tup (sa_cons (se_int) (sa_cons (se_negc) (sa_cons (se_int) (sa_nil))))) (se_int)) (se_tup (sa_cons (se_negc) (sa_cons (se_int) (sa_nil))))) (sa_nil)))))))))))
theorem ok__law_is_term (T : Txt K mg) : Ok P w K mg base 1 "_law_is_term" ["value"] s__law_is_term := by
  obtain ⟨f, fd, F⟩ := T.f__law_is_term
  refine ⟨f, fd, def_ok (Ns := N__law_is_term) F.fn sc__law_is_term rfl fun cdv A outer s H E N hr => ?_, F.mg, F.fn.kp, F.bi⟩
  exact sss_cons (ss_if (st_w (sw_or (st_not (st_truth (se_callB cs_isi (by rfl) T.n_isinstance (by decide +kernel) (sr_cons (se_var 0) (sr_cons (se_ty (by rfl) T.n_tuple (by decide +kernel)) (sr_nil)))))) (sw_or1 (st_not (st_chain ops_le ops_le (se_int) (se_callB cs_len (by rfl) T.n_len (by decide +kernel) (sr_cons (se_var 0) (sr_nil))) (se_int)))))) (sss_one (ss_ret (se_bl))) (sss_nil))
      (sss_cons (ss_set 1 sc__law_is_term.nd (se_int))
      (sss_cons (ss_for PassesOwn.never rfl (si_items (se_var 0)) (sg_name 2 sc__law_is_term.nd) (sss_cons (ss_if (st_w (sw_or (st_not (st_truth (se_callB cs_isi (by rfl) T.n_isinstance (by decide +kernel) (sr_cons (se_var 2) (sr_cons (se_ty (by rfl) T.n_int (by decide +kernel)) (sr_nil)))))) (sw_or (st_truth (se_callB cs_isi (by rfl) T.n_isinstance (by decide +kernel) (sr_cons (se_var 2) (sr_cons (se_ty (by rfl) T.n_bool (by decide +kernel)) (sr_nil))))) (sw_or (st_not (st_chain ops_le ops_le (se_negc) (se_var 2) (se_int))) (sw_or1 (st_cmp (ops_eq hr.units) (se_var 1) (se_int) (nomark _))))))) (sss_one (ss_ret (se_bl))) (sss_nil))
      (sss_cons (ss_if (st_cmp (ops_eq hr.units) (se_var 2) (se_int) (nomark _)) (sss_one (ss_set 1 sc__law_is_term.nd (se_bin ops_add (se_var 1) (se_int)))) (sss_nil))
      (sss_one (ss_if (st_cmp ops_gt (se_var 2) (se_int) (nomark _)) (sss_one (ss_set 1 sc__law_is_term.nd (se_bin ops_sub (se_var 1) (se_int)))) (sss_nil))))))
      (sss_one (ss_ret (se_cmp (ops_eq hr.units) (se_var 1) (se_int) (nomark _))))))
theorem ok__law_right (T : Txt K mg) : Ok P w K mg base 7 "_law_right" ["dice"] s__law_right := by
  obtain ⟨_, _, G__law_roll, m__law_roll, k__law_roll, b__law_roll⟩ := ok__law_roll (P := P) (w := w) (base := base) T
  obtain ⟨_, _, G__law_term_drawn, m__law_term_drawn, k__law_term_drawn, b__law_term_drawn⟩ := ok__law_term_drawn (P := P) (w := w) (base := base) T
  obtain ⟨_, _, G__law_near_values, m__law_near_values, k__law_near_values, b__law_near_values⟩ := ok__law_near_values (P := P) (w := w) (base := base) T
  obtain ⟨_, _, G__law_long_values, m__law_long_values, k__law_long_values, b__law_long_values⟩ := ok__law_long_values (P := P) (w := w) (base := base) T
  obtain ⟨_, _, G_is_term, m_is_term, k_is_term, b_is_term⟩ := ok_is_term (P := P) (w := w) (base := base) T
  obtain ⟨_, _, G__law_is_term, m__law_is_term, k__law_is_term, b__law_is_term⟩ := ok__law_is_term (P := P) (w := w) (base := base) T
  obtain ⟨_, _, G__law_ends, m__law_ends, k__law_ends, b__law_ends⟩ := ok__law_ends (P := P) (w := w) (base := base) T
  obtain ⟨_, _, G_part_of, m_part_of, k_part_of, b_part_of⟩ := ok_part_of (P := P) (w := w) (base := base) T
  obtain ⟨_, _, G_part_end, m_part_end, k_part_end, b_part_end⟩ := ok_part_end (P := P) (w := w) (base := base) T
  obtain ⟨f, fd, F⟩ := T.f__law_right
  refine ⟨f, fd, def_ok (Ns := N__law_right) F.fn sc__law_right rfl fun cdv A outer s H E N hr => ?_, F.mg, F.fn.kp, F.bi⟩
  exact sss_cons (ss_set 1 sc__law_right.nd (se_call G__law_term_drawn (hr.mono (by decide)) (by rfl) m__law_term_drawn k__law_term_drawn b__law_term_drawn (sar_cons true (se_var 0) (sar_cons false (se_bin ops_add (se_int) (se_call G__law_roll (hr.mono (by decide)) (by rfl) m__law_roll k__law_roll b__law_roll (sar_cons true (se_var 0) (sar_cons false (se_int) (sar_nil))))) (sar_cons false (se_bin ops_add (se_int) (se_call G__law_roll (hr.mono (by decide)) (by rfl) m__law_roll k__law_roll b__law_roll (sar_cons true (se_var 0) (sar_cons false (se_int) (sar_nil))))) (sar_nil))))))
      (sss_cons (ss_for PassesOwn.never rfl (si_items (se_bin ops_add (se_call G__law_near_values (hr.mono (by decide)) (by rfl) m__law_near_values k__law_near_values b__law_near_values (sar_cons true (se_var 0) (sar_cons false (se_var 1) (sar_nil)))) (se_call G__law_long_values (hr.mono (by decide)) (by rfl) m__law_long_values k__law_long_values b__law_long_values (sar_cons true (se_var 0) (sar_nil))))) (sg_name 2 sc__law_right.nd) (sss_one (ss_if (st_cmp (ops_ne hr.units) (se_call G_is_term (hr.mono (by decide)) (by rfl) m_is_term k_is_term b_is_term (sar_cons false (se_var 2) (sar_nil))) (se_call G__law_is_term (hr.mono (by decide)) (by rfl) m__law_is_term k__law_is_term b__law_is_term (sar_cons false (se_var 2) (sar_nil))) (nomark _)) (sss_one (ss_ret (se_bl))) (sss_nil))))
      (sss_cons (ss_set 3 sc__law_right.nd (se_call G__law_ends (hr.mono (by decide)) (by rfl) m__law_ends k__law_ends b__law_ends (sar_cons false (se_var 1) (sar_nil))))
      (sss_cons (ss_for PassesOwn.never rfl (si_range1 (by rfl) T.n_range (sa_cons (se_int) (sa_nil))) (sg_name 4 sc__law_right.nd) (sss_cons (ss_set 5 sc__law_right.nd (se_call G__law_roll (hr.mono (by decide)) (by rfl) m__law_roll k__law_roll b__law_roll (sar_cons true (se_var 0) (sar_cons false (se_callB cs_len (by rfl) T.n_len (by decide +kernel) (sr_cons (se_var 1) (sr_nil))) (sar_nil)))))
      (sss_cons (ss_set 6 sc__law_right.nd (se_call G_part_of (hr.mono (by decide)) (by rfl) m_part_of k_part_of b_part_of (sar_cons false (se_var 1) (sar_cons false (se_var 5) (sar_nil)))))
      (sss_cons (ss_if (st_w (sw_or (st_cmp (ops_ne hr.units) (se_call G_part_end (hr.mono (by decide)) (by rfl) m_part_end k_part_end b_part_end (sar_cons false (se_var 1) (sar_cons false (se_var 5) (sar_nil)))) (se_ix (se_var 3) (se_var 5)) (nomark _)) (sw_or (st_cmp (ops_ne hr.units) (se_var 6) (se_slice (se_var 1) (so_some (se_var 5)) (so_some (se_ix (se_var 3) (se_var 5)))) (nomark _)) (sw_or1 (st_not (st_truth (se_call G_is_term (hr.mono (by decide)) (by rfl) m_is_term k_is_term b_is_term (sar_cons false (se_var 6) (sar_nil))))))))) (sss_one (ss_ret (se_bl))) (sss_nil))
      (sss_cons (ss_set 7 sc__law_right.nd (se_bin ops_sub (se_bin ops_sub (se_bin ops_add (se_var 5) (se_callB cs_len (by rfl) T.n_len (by decide +kernel) (sr_cons (se_var 6) (sr_nil)))) (se_int)) (se_call G__law_roll (hr.mono (by decide)) (by rfl) m__law_roll k__law_roll b__law_roll (sar_cons true (se_var 0) (sar_cons false (se_callB cs_len (by rfl) T.n_len (by decide +kernel) (sr_cons (se_var 6) (sr_nil))) (sar_nil))))))
      (sss_cons (ss_if (st_not (st_chain3 ops_le ops_lt ops_le (se_var 5) (se_var 7) (se_call G_part_end (hr.mono (by decide)) (by rfl) m_part_end k_part_end b_part_end (sar_cons false (se_var 1) (sar_cons false (se_var 7) (sar_nil)))) (se_ix (se_var 3) (se_var 5)))) (sss_one (ss_ret (se_bl))) (sss_nil))
      (sss_one (ss_if (st_cmp (ops_ne hr.units) (se_call G_part_of (hr.mono (by decide)) (by rfl) m_part_of k_part_of b_part_of (sar_cons false (se_var 6) (sar_cons false (se_bin ops_sub (se_var 7) (se_var 5)) (sar_nil)))) (se_call G_part_of (hr.mono (by decide)) (by rfl) m_part_of k_part_of b_part_of (sar_cons false (se_var 1) (sar_cons false (se_var 7) (sar_nil)))) (nomark _)) (sss_one (ss_ret (se_bl))) (sss_nil)))))))))
      (sss_one (ss_ret (se_cmp (ops_eq hr.units) (se_call G_part_of (hr.mono (by decide)) (by rfl) m_part_of k_part_of b_part_of (sar_cons false (se_var 1) (sar_cons false (se_int) (sar_nil)))) (se_var 1) (nomark _)))))))
theorem ok__law_dice (T : Txt K mg) : Ok P w K mg base 1 "_law_dice" ["script", "at"] s__law_dice := by
  obtain ⟨f, fd, F⟩ := T.f__law_dice
  refine ⟨f, fd, def_ok (Ns := N__law_dice) F.fn sc__law_dice rfl fun cdv A outer s H E N hr => ?_, F.mg, F.fn.kp, F.bi⟩
  exact sss_cons (ss_set 2 sc__law_dice.nd (se_bin ops_add (se_bin ops_mul (se_int) (se_var 1)) (se_int)))
      (sss_cons (ss_if (st_cmp ops_lt (se_var 1) (se_callB cs_len (by rfl) T.n_len (by decide +kernel) (sr_cons (se_var 0) (sr_nil))) (nomark _)) (sss_one (ss_set 2 sc__law_dice.nd (se_ix (se_var 0) (se_var 1)))) (sss_nil))
      (sss_cons (ss_set 3 sc__law_dice.nd (se_bin ops_mod (se_callTy cs_int (by rfl) T.n_int (by decide +kernel) (sr_cons (se_callB cs_abs (by rfl) T.n_abs (by decide +kernel) (sr_cons (se_var 2) (sr_nil))) (sr_nil))) (se_bin ops_pow (se_bin ops_pow (se_int) (se_int)) (se_int))))
      (sss_cons (ss_set 4 sc__law_dice.nd (se_bin ops_div (se_var 3) (se_bin ops_pow (se_int) (se_int))))
      (sss_cons (ss_set 5 sc__law_dice.nd (se_bin ops_add (se_bin ops_add (se_bin ops_add (se_bin ops_mul (se_bin ops_mod (se_var 3) (se_int)) (se_int)) (se_bin ops_mul (se_int) (se_var 1))) (se_bin ops_mul (se_int) (se_callTy cs_int (by rfl) T.n_int (by decide +kernel) (sr_cons (se_cmp ops_lt (se_var 2) (se_int) (nomark _)) (sr_nil))))) (se_int)))
      (sss_one (ss_ret (se_lst (sa_cons (se_var 4) (sa_cons (se_bin ops_mod (se_var 5) (se_int)) (sa_cons (se_int) (sa_nil)))))))))))
theorem ok_law (T : Txt K mg) {f : Addr} {fd : FuncData} (F : DefF K mg "law" d_law ["script"] f fd) : FnOk P w K mg base CX0 8 f fd ["script"] (spM K (fun _ _ _ _ _ => False) s_law) := by
  obtain ⟨_, _, G__law_dice, m__law_dice, k__law_dice, b__law_dice⟩ := ok__law_dice (P := P) (w := w) (base := base) T
  obtain ⟨_, _, G__law_right, m__law_right, k__law_right, b__law_right⟩ := ok__law_right (P := P) (w := w) (base := base) T
  obtain ⟨_, _, G_part_of, m_part_of, k_part_of, b_part_of⟩ := ok_part_of (P := P) (w := w) (base := base) T
  obtain ⟨_, _, G_part_end, m_part_end, k_part_end, b_part_end⟩ := ok_part_end (P := P) (w := w) (base := base) T
  obtain ⟨_, _, G_is_term, m_is_term, k_is_term, b_is_term⟩ := ok_is_term (P := P) (w := w) (base := base) T
  refine def_ok (Ns := N_law) F.fn sc_law rfl fun cdv A outer s H E N hr => ?_
  exact sss_cons (ss_for PassesOwn.never rfl (si_range1 (by rfl) T.n_range (sa_cons (se_callB (cs_max2 rfl) (by rfl) T.n_max (by decide +kernel) (sr_cons (se_int) (sr_cons (se_callB (cs_min2 rfl) (by rfl) T.n_min (by decide +kernel) (sr_cons (se_int) (sr_cons (se_callB cs_len (by rfl) T.n_len (by decide +kernel) (sr_cons (se_var 0) (sr_nil))) (sr_nil)))) (sr_nil)))) (sa_nil))) (sg_name 1 sc_law.nd) (sss_one (ss_if (st_not (st_truth (se_call G__law_right (hr.mono (by decide)) (by rfl) m__law_right k__law_right b__law_right (sar_cons true (se_call G__law_dice (hr.mono (by decide)) (by rfl) m__law_dice k__law_dice b__law_dice (sar_cons false (se_var 0) (sar_cons false (se_var 1) (sar_nil)))) (sar_nil))))) (sss_one (ss_ret (se_bl))) (sss_nil))))
      (sss_cons (ss_set 2 sc_law.nd (se_tup (sa_cons (se_int) (sa_cons (se_negc) (sa_cons (se_int) (sa_cons (se_int) (sa_cons (se_int) (sa_cons (se_int) (sa_cons (se_negc) (sa_cons (se_int) (sa_cons (se_negc) (sa_cons (se_int) (sa_nil)))))))))))))
      (sss_cons (ss_set 3 sc_law.nd (se_lst (sa_cons (se_call G_is_term (hr.mono (by decide)) (by rfl) m_is_term k_is_term b_is_term (sar_cons false (se_var 2) (sar_nil))) (sa_cons (se_call G_is_term (hr.mono (by decide)) (by rfl) m_is_term k_is_term b_is_term (sar_cons false (se_tup (sa_cons (se_int) (sa_cons (se_int) (sa_nil)))) (sar_nil))) (sa_cons (se_call G_is_term (hr.mono (by decide)) (by rfl) m_is_term k_is_term b_is_term (sar_cons false (se_tup (sa_cons (se_int) (sa_cons (se_negc) (sa_cons (se_int) (sa_cons (se_int) (sa_nil)))))) (sar_nil))) (sa_cons (se_call G_part_end (hr.mono (by decide)) (by rfl) m_part_end k_part_end b_part_end (sar_cons false (se_var 2) (sar_cons false (se_int) (sar_nil)))) (sa_cons (se_call G_part_of (hr.mono (by decide)) (by rfl) m_part_of k_part_of b_part_of (sar_cons false (se_var 2) (sar_cons false (se_int) (sar_nil)))) (sa_nil))))))))
      (sss_cons (ss_if (st_w (sw_or (st_cmp (ops_ne hr.units) (se_var 3) (se_lst (sa_cons (se_bl) (sa_cons (se_bl) (sa_cons (se_bl) (sa_cons (se_int) (sa_cons (se_tup (sa_cons (se_int) (sa_cons (se_negc) (sa_cons (se_int) (sa_cons (se_negc) (sa_cons (se_int) (sa_nil))))))) (sa_nil))))))) (nomark _)) (sw_or (st_truth (se_call G_is_term (hr.mono (by decide)) (by rfl) m_is_term k_is_term b_is_term (sar_cons false (se_tup (sa_cons (se_int) (sa_cons (se_int) (sa_cons (se_int) (sa_nil))))) (sar_nil)))) (sw_or1 (st_truth (se_call G_is_term (hr.mono (by decide)) (by rfl) m_is_term k_is_term b_is_term (sar_cons false (se_tup (sa_cons (se_negc) (sa_cons (se_int) (sa_cons (se_int) (sa_cons (se_int) (sa_nil)))))) (sar_nil)))))))) (sss_one (ss_ret (se_bl))) (sss_nil))
      (sss_one (ss_ret (se_cmp (ops_eq hr.units) (se_tup (sa_cons (se_gintX (by rfl) T.c_MAX_PARTS) (sa_cons (se_gintX (by rfl) T.c_MAX_VARIABLE) (sa_nil)))) (se_tup (sa_cons (se_int) (sa_cons (se_int) (sa_nil)))) (nomark _)))))))
end
end PL

namespace PL
open PySem PySem.Spec PyProof.Rows L2
theorem all_mk (hT : ∀ ns : List Int, ns.length ≤ 63 → ∃ e, s_law [.fz (.rol (ns.map D.int))] = some (.ok (false, .bl true) e)) {l : PySem.W.OpenLaw} {w : World} {K : PySem.W.Frag} {h : Heap} {mg : Str → Option Value} {fa : Addr} (X : K.In h) (G : h.Ns mainGlobals mg) (hfa : mg "law" = some (.ref fa))
    {f0 f1 f2 f3 f4 f5 f6 f7 f8 f9 f10 f11 f12 f13 f14 f15 f16 f17 f18 f19 f20 f21 : Addr}
    {od0 an0 od1 an1 od2 an2 od3 an3 od4 an4 od5 an5 od6 an6 od7 an7 od8 an8 od9 an9 od10 an10 od11 an11 od12 an12 od13 an13 od14 an14 od15 an15 od16 an16 od17 an17 od18 an18 od19 an19 od20 an20 od21 an21 : Option Addr} {sl0 sl1 sl2 sl3 sl4 sl5 sl6 sl7 sl8 sl9 sl10 sl11 sl12 sl13 sl14 sl15 sl16 sl17 sl18 sl19 sl20 sl21 : Array (Option Value)} {oc0 kV0 dc0 pm0 cd0 ct0 oc1 kV1 dc1 pm1 cd1 ct1 oc2 kV2 dc2 pm2 cd2 ct2 oc3 kV3 dc3 pm3 cd3 ct3 oc4 kV4 dc4 pm4 cd4 ct4 oc5 kV5 dc5 pm5 cd5 ct5 oc6 kV6 dc6 pm6 cd6 ct6 oc7 kV7 dc7 pm7 cd7 ct7 oc8 kV8 dc8 pm8 cd8 ct8 oc9 kV9 dc9 pm9 cd9 ct9 oc10 kV10 dc10 pm10 cd10 ct10 oc11 kV11 dc11 pm11 cd11 ct11 oc12 kV12 dc12 pm12 cd12 ct12 oc13 kV13 dc13 pm13 cd13 ct13 oc14 kV14 dc14 pm14 cd14 ct14 oc15 kV15 dc15 pm15 cd15 ct15 oc16 kV16 dc16 pm16 cd16 ct16 oc17 kV17 dc17 pm17 cd17 ct17 oc18 kV18 dc18 pm18 cd18 ct18 oc19 kV19 dc19 pm19 cd19 ct19 oc20 kV20 dc20 pm20 cd20 ct20 oc21 kV21 dc21 pm21 cd21 ct21 : Value}
    {t_CALL t_MAX_PARTS t_MAX_VARIABLE t_FUNCTION : Tok}
    (a0 : PySem.W.nsIn K mainGlobals "is_shaped" = some (some (.ref f0))) (l0 : K.lookup f0 = some ⟨oc0, od0, .func (PySem.W.fnOf "is_shaped" "is_shaped" (defArgs d_is_shaped) (defBody d_is_shaped) (defScope d_is_shaped) .none kV0 dc0 pm0 an0 cd0 ct0), sl0⟩) (c0 : PySem.W.codeIn K cd0 "is_shaped" = true) (k0 : PySem.W.keepIn K (.ref f0) = true)
    (a1 : PySem.W.nsIn K mainGlobals "is_whole_number" = some (some (.ref f1))) (l1 : K.lookup f1 = some ⟨oc1, od1, .func (PySem.W.fnOf "is_whole_number" "is_whole_number" (defArgs d_is_whole_number) (defBody d_is_whole_number) (defScope d_is_whole_number) .none kV1 dc1 pm1 an1 cd1 ct1), sl1⟩) (c1 : PySem.W.codeIn K cd1 "is_whole_number" = true) (k1 : PySem.W.keepIn K (.ref f1) = true)
    (a2 : PySem.W.nsIn K mainGlobals "is_within" = some (some (.ref f2))) (l2 : K.lookup f2 = some ⟨oc2, od2, .func (PySem.W.fnOf "is_within" "is_within" (defArgs d_is_within) (defBody d_is_within) (defScope d_is_within) .none kV2 dc2 pm2 an2 cd2 ct2), sl2⟩) (c2 : PySem.W.codeIn K cd2 "is_within" = true) (k2 : PySem.W.keepIn K (.ref f2) = true)
    (a3 : PySem.W.nsIn K mainGlobals "is_term_in" = some (some (.ref f3))) (l3 : K.lookup f3 = some ⟨oc3, od3, .func (PySem.W.fnOf "is_term_in" "is_term_in" (defArgs d_is_term_in) (defBody d_is_term_in) (defScope d_is_term_in) .none kV3 dc3 pm3 an3 cd3 ct3), sl3⟩) (c3 : PySem.W.codeIn K cd3 "is_term_in" = true) (k3 : PySem.W.keepIn K (.ref f3) = true)
    (a4 : PySem.W.nsIn K mainGlobals "is_term" = some (some (.ref f4))) (l4 : K.lookup f4 = some ⟨oc4, od4, .func (PySem.W.fnOf "is_term" "is_term" (defArgs d_is_term) (defBody d_is_term) (defScope d_is_term) .none kV4 dc4 pm4 an4 cd4 ct4), sl4⟩) (c4 : PySem.W.codeIn K cd4 "is_term" = true) (k4 : PySem.W.keepIn K (.ref f4) = true)
    (a5 : PySem.W.nsIn K mainGlobals "require_term" = some (some (.ref f5))) (l5 : K.lookup f5 = some ⟨oc5, od5, .func (PySem.W.fnOf "require_term" "require_term" (defArgs d_require_term) (defBody d_require_term) (defScope d_require_term) .none kV5 dc5 pm5 an5 cd5 ct5), sl5⟩) (c5 : PySem.W.codeIn K cd5 "require_term" = true) (k5 : PySem.W.keepIn K (.ref f5) = true)
    (a6 : PySem.W.nsIn K mainGlobals "is_place_in" = some (some (.ref f6))) (l6 : K.lookup f6 = some ⟨oc6, od6, .func (PySem.W.fnOf "is_place_in" "is_place_in" (defArgs d_is_place_in) (defBody d_is_place_in) (defScope d_is_place_in) .none kV6 dc6 pm6 an6 cd6 ct6), sl6⟩) (c6 : PySem.W.codeIn K cd6 "is_place_in" = true) (k6 : PySem.W.keepIn K (.ref f6) = true)
    (a7 : PySem.W.nsIn K mainGlobals "require_place" = some (some (.ref f7))) (l7 : K.lookup f7 = some ⟨oc7, od7, .func (PySem.W.fnOf "require_place" "require_place" (defArgs d_require_place) (defBody d_require_place) (defScope d_require_place) .none kV7 dc7 pm7 an7 cd7 ct7), sl7⟩) (c7 : PySem.W.codeIn K cd7 "require_place" = true) (k7 : PySem.W.keepIn K (.ref f7) = true)
    (a8 : PySem.W.nsIn K mainGlobals "require_term_place" = some (some (.ref f8))) (l8 : K.lookup f8 = some ⟨oc8, od8, .func (PySem.W.fnOf "require_term_place" "require_term_place" (defArgs d_require_term_place) (defBody d_require_term_place) (defScope d_require_term_place) .none kV8 dc8 pm8 an8 cd8 ct8), sl8⟩) (c8 : PySem.W.codeIn K cd8 "require_term_place" = true) (k8 : PySem.W.keepIn K (.ref f8) = true)
    (a9 : PySem.W.nsIn K mainGlobals "part_end_in" = some (some (.ref f9))) (l9 : K.lookup f9 = some ⟨oc9, od9, .func (PySem.W.fnOf "part_end_in" "part_end_in" (defArgs d_part_end_in) (defBody d_part_end_in) (defScope d_part_end_in) .none kV9 dc9 pm9 an9 cd9 ct9), sl9⟩) (c9 : PySem.W.codeIn K cd9 "part_end_in" = true) (k9 : PySem.W.keepIn K (.ref f9) = true)
    (a10 : PySem.W.nsIn K mainGlobals "part_end" = some (some (.ref f10))) (l10 : K.lookup f10 = some ⟨oc10, od10, .func (PySem.W.fnOf "part_end" "part_end" (defArgs d_part_end) (defBody d_part_end) (defScope d_part_end) .none kV10 dc10 pm10 an10 cd10 ct10), sl10⟩) (c10 : PySem.W.codeIn K cd10 "part_end" = true) (k10 : PySem.W.keepIn K (.ref f10) = true)
    (a11 : PySem.W.nsIn K mainGlobals "part_in" = some (some (.ref f11))) (l11 : K.lookup f11 = some ⟨oc11, od11, .func (PySem.W.fnOf "part_in" "part_in" (defArgs d_part_in) (defBody d_part_in) (defScope d_part_in) .none kV11 dc11 pm11 an11 cd11 ct11), sl11⟩) (c11 : PySem.W.codeIn K cd11 "part_in" = true) (k11 : PySem.W.keepIn K (.ref f11) = true)
    (a12 : PySem.W.nsIn K mainGlobals "part_of" = some (some (.ref f12))) (l12 : K.lookup f12 = some ⟨oc12, od12, .func (PySem.W.fnOf "part_of" "part_of" (defArgs d_part_of) (defBody d_part_of) (defScope d_part_of) .none kV12 dc12 pm12 an12 cd12 ct12), sl12⟩) (c12 : PySem.W.codeIn K cd12 "part_of" = true) (k12 : PySem.W.keepIn K (.ref f12) = true)
    (a13 : PySem.W.nsIn K mainGlobals "_law_roll" = some (some (.ref f13))) (l13 : K.lookup f13 = some ⟨oc13, od13, .func (PySem.W.fnOf "_law_roll" "_law_roll" (defArgs d__law_roll) (defBody d__law_roll) (defScope d__law_roll) .none kV13 dc13 pm13 an13 cd13 ct13), sl13⟩) (c13 : PySem.W.codeIn K cd13 "_law_roll" = true) (k13 : PySem.W.keepIn K (.ref f13) = true)
    (a14 : PySem.W.nsIn K mainGlobals "_law_term_drawn" = some (some (.ref f14))) (l14 : K.lookup f14 = some ⟨oc14, od14, .func (PySem.W.fnOf "_law_term_drawn" "_law_term_drawn" (defArgs d__law_term_drawn) (defBody d__law_term_drawn) (defScope d__law_term_drawn) .none kV14 dc14 pm14 an14 cd14 ct14), sl14⟩) (c14 : PySem.W.codeIn K cd14 "_law_term_drawn" = true) (k14 : PySem.W.keepIn K (.ref f14) = true)
    (a15 : PySem.W.nsIn K mainGlobals "_law_ends" = some (some (.ref f15))) (l15 : K.lookup f15 = some ⟨oc15, od15, .func (PySem.W.fnOf "_law_ends" "_law_ends" (defArgs d__law_ends) (defBody d__law_ends) (defScope d__law_ends) .none kV15 dc15 pm15 an15 cd15 ct15), sl15⟩) (c15 : PySem.W.codeIn K cd15 "_law_ends" = true) (k15 : PySem.W.keepIn K (.ref f15) = true)
    (a16 : PySem.W.nsIn K mainGlobals "_law_near_values" = some (some (.ref f16))) (l16 : K.lookup f16 = some ⟨oc16, od16, .func (PySem.W.fnOf "_law_near_values" "_law_near_values" (defArgs d__law_near_values) (defBody d__law_near_values) (defScope d__law_near_values) .none kV16 dc16 pm16 an16 cd16 ct16), sl16⟩) (c16 : PySem.W.codeIn K cd16 "_law_near_values" = true) (k16 : PySem.W.keepIn K (.ref f16) = true)
    (a17 : PySem.W.nsIn K mainGlobals "_law_long_values" = some (some (.ref f17))) (l17 : K.lookup f17 = some ⟨oc17, od17, .func (PySem.W.fnOf "_law_long_values" "_law_long_values" (defArgs d__law_long_values) (defBody d__law_long_values) (defScope d__law_long_values) .none kV17 dc17 pm17 an17 cd17 ct17), sl17⟩) (c17 : PySem.W.codeIn K cd17 "_law_long_values" = true) (k17 : PySem.W.keepIn K (.ref f17) = true)
    (a18 : PySem.W.nsIn K mainGlobals "_law_is_term" = some (some (.ref f18))) (l18 : K.lookup f18 = some ⟨oc18, od18, .func (PySem.W.fnOf "_law_is_term" "_law_is_term" (defArgs d__law_is_term) (defBody d__law_is_term) (defScope d__law_is_term) .none kV18 dc18 pm18 an18 cd18 ct18), sl18⟩) (c18 : PySem.W.codeIn K cd18 "_law_is_term" = true) (k18 : PySem.W.keepIn K (.ref f18) = true)
    (a19 : PySem.W.nsIn K mainGlobals "_law_right" = some (some (.ref f19))) (l19 : K.lookup f19 = some ⟨oc19, od19, .func (PySem.W.fnOf "_law_right" "_law_right" (defArgs d__law_right) (defBody d__law_right) (defScope d__law_right) .none kV19 dc19 pm19 an19 cd19 ct19), sl19⟩) (c19 : PySem.W.codeIn K cd19 "_law_right" = true) (k19 : PySem.W.keepIn K (.ref f19) = true)
    (a20 : PySem.W.nsIn K mainGlobals "_law_dice" = some (some (.ref f20))) (l20 : K.lookup f20 = some ⟨oc20, od20, .func (PySem.W.fnOf "_law_dice" "_law_dice" (defArgs d__law_dice) (defBody d__law_dice) (defScope d__law_dice) .none kV20 dc20 pm20 an20 cd20 ct20), sl20⟩) (c20 : PySem.W.codeIn K cd20 "_law_dice" = true) (k20 : PySem.W.keepIn K (.ref f20) = true)
    (a21 : PySem.W.nsIn K mainGlobals "law" = some (some (.ref f21))) (l21 : K.lookup f21 = some ⟨oc21, od21, .func (PySem.W.fnOf "law" "law" (defArgs d_law) (defBody d_law) (defScope d_law) .none kV21 dc21 pm21 an21 cd21 ct21), sl21⟩) (c21 : PySem.W.codeIn K cd21 "law" = true) (k21 : PySem.W.keepIn K (.ref f21) = true)
    (z_int : PySem.W.nsIn K mainGlobals "int" = some none)
    (z_isinstance : PySem.W.nsIn K mainGlobals "isinstance" = some none)
    (z_bool : PySem.W.nsIn K mainGlobals "bool" = some none)
    (z_tuple : PySem.W.nsIn K mainGlobals "tuple" = some none)
    (z_len : PySem.W.nsIn K mainGlobals "len" = some none)
    (z_all : PySem.W.nsIn K mainGlobals "all" = some none)
    (z_min : PySem.W.nsIn K mainGlobals "min" = some none)
    (z_range : PySem.W.nsIn K mainGlobals "range" = some none)
    (z_list : PySem.W.nsIn K mainGlobals "list" = some none)
    (z_abs : PySem.W.nsIn K mainGlobals "abs" = some none)
    (z_max : PySem.W.nsIn K mainGlobals "max" = some none)
    (y_CALL : PySem.W.nsIn K mainGlobals "CALL" = some (some (.int 0 t_CALL)))
    (y_MAX_PARTS : PySem.W.nsIn K mainGlobals "MAX_PARTS" = some (some (.int 400 t_MAX_PARTS)))
    (y_MAX_VARIABLE : PySem.W.nsIn K mainGlobals "MAX_VARIABLE" = some (some (.int 1000 t_MAX_VARIABLE)))
    (y_FUNCTION : PySem.W.nsIn K mainGlobals "FUNCTION" = some (some (.int (-1) t_FUNCTION)))
    : ∃ fd : FuncData, (∀ (s : Shared) (v : Value), BindsTo s fd ⟨[v], []⟩ [("script", v)]) ∧ ∀ base : Heap, K.In base → base.Ns mainGlobals mg → FnOk l.prog w K mg base CX0 8 fa fd ["script"] (fun vs H Q _ => ∃ (a : Addr) (ns : List Int), vs = [.ref a] ∧ SqL K H a (ns.map V.int) ∧ ns.length ≤ 63 ∧ ∀ H', Q (.bl true) H') := by
  have e := hfa.symm.trans (PySem.W.mg_of X G a21)
  cases e
  have F0 := fun_mk (st := d_is_shaped) l0 c0 k0
  have b0 := F0.binds (ps := ["codes"]) fun _ _ _ _ _ _ us hl => match us, hl with | [_], _ => rfl
  have F1 := fun_mk (st := d_is_whole_number) l1 c1 k1
  have b1 := F1.binds (ps := ["value"]) fun _ _ _ _ _ _ us hl => match us, hl with | [_], _ => rfl
  have F2 := fun_mk (st := d_is_within) l2 c2 k2
  have b2 := F2.binds (ps := ["value", "least", "most"]) fun _ _ _ _ _ _ us hl => match us, hl with | [_, _, _], _ => rfl
  have F3 := fun_mk (st := d_is_term_in) l3 c3 k3
  have b3 := F3.binds (ps := ["value"]) fun _ _ _ _ _ _ us hl => match us, hl with | [_], _ => rfl
  have F4 := fun_mk (st := d_is_term) l4 c4 k4
  have b4 := F4.binds (ps := ["value"]) fun _ _ _ _ _ _ us hl => match us, hl with | [_], _ => rfl
  have F5 := fun_mk (st := d_require_term) l5 c5 k5
  have b5 := F5.binds (ps := ["value"]) fun _ _ _ _ _ _ us hl => match us, hl with | [_], _ => rfl
  have F6 := fun_mk (st := d_is_place_in) l6 c6 k6
  have b6 := F6.binds (ps := ["term", "value"]) fun _ _ _ _ _ _ us hl => match us, hl with | [_, _], _ => rfl
  have F7 := fun_mk (st := d_require_place) l7 c7 k7
  have b7 := F7.binds (ps := ["term", "place"]) fun _ _ _ _ _ _ us hl => match us, hl with | [_, _], _ => rfl
  have F8 := fun_mk (st := d_require_term_place) l8 c8 k8
  have b8 := F8.binds (ps := ["term", "place"]) fun _ _ _ _ _ _ us hl => match us, hl with | [_, _], _ => rfl
  have F9 := fun_mk (st := d_part_end_in) l9 c9 k9
  have b9 := F9.binds (ps := ["term", "place"]) fun _ _ _ _ _ _ us hl => match us, hl with | [_, _], _ => rfl
  have F10 := fun_mk (st := d_part_end) l10 c10 k10
  have b10 := F10.binds (ps := ["term", "place"]) fun _ _ _ _ _ _ us hl => match us, hl with | [_, _], _ => rfl
  have F11 := fun_mk (st := d_part_in) l11 c11 k11
  have b11 := F11.binds (ps := ["term", "place"]) fun _ _ _ _ _ _ us hl => match us, hl with | [_, _], _ => rfl
  have F12 := fun_mk (st := d_part_of) l12 c12 k12
  have b12 := F12.binds (ps := ["term", "place"]) fun _ _ _ _ _ _ us hl => match us, hl with | [_, _], _ => rfl
  have F13 := fun_mk (st := d__law_roll) l13 c13 k13
  have b13 := F13.binds (ps := ["dice", "total"]) fun _ _ _ _ _ _ us hl => match us, hl with | [_, _], _ => rfl
  have F14 := fun_mk (st := d__law_term_drawn) l14 c14 k14
  have b14 := F14.binds (ps := ["dice", "size", "open_count"]) fun _ _ _ _ _ _ us hl => match us, hl with | [_, _, _], _ => rfl
  have F15 := fun_mk (st := d__law_ends) l15 c15 k15
  have b15 := F15.binds (ps := ["term"]) fun _ _ _ _ _ _ us hl => match us, hl with | [_], _ => rfl
  have F16 := fun_mk (st := d__law_near_values) l16 c16 k16
  have b16 := F16.binds (ps := ["dice", "term"]) fun _ _ _ _ _ _ us hl => match us, hl with | [_, _], _ => rfl
  have F17 := fun_mk (st := d__law_long_values) l17 c17 k17
  have b17 := F17.binds (ps := ["dice"]) fun _ _ _ _ _ _ us hl => match us, hl with | [_], _ => rfl
  have F18 := fun_mk (st := d__law_is_term) l18 c18 k18
  have b18 := F18.binds (ps := ["value"]) fun _ _ _ _ _ _ us hl => match us, hl with | [_], _ => rfl
  have F19 := fun_mk (st := d__law_right) l19 c19 k19
  have b19 := F19.binds (ps := ["dice"]) fun _ _ _ _ _ _ us hl => match us, hl with | [_], _ => rfl
  have F20 := fun_mk (st := d__law_dice) l20 c20 k20
  have b20 := F20.binds (ps := ["script", "at"]) fun _ _ _ _ _ _ us hl => match us, hl with | [_, _], _ => rfl
  have F21 := fun_mk (st := d_law) l21 c21 k21
  have b21 := F21.binds (ps := ["script"]) fun _ _ _ _ _ _ us hl => match us, hl with | [_], _ => rfl
  have T : Txt K mg := ⟨⟨_, _, F0, PySem.W.mg_of X G a0, b0⟩, ⟨_, _, F1, PySem.W.mg_of X G a1, b1⟩, ⟨_, _, F2, PySem.W.mg_of X G a2, b2⟩, ⟨_, _, F3, PySem.W.mg_of X G a3, b3⟩, ⟨_, _, F4, PySem.W.mg_of X G a4, b4⟩, ⟨_, _, F5, PySem.W.mg_of X G a5, b5⟩, ⟨_, _, F6, PySem.W.mg_of X G a6, b6⟩, ⟨_, _, F7, PySem.W.mg_of X G a7, b7⟩, ⟨_, _, F8, PySem.W.mg_of X G a8, b8⟩, ⟨_, _, F9, PySem.W.mg_of X G a9, b9⟩, ⟨_, _, F10, PySem.W.mg_of X G a10, b10⟩, ⟨_, _, F11, PySem.W.mg_of X G a11, b11⟩, ⟨_, _, F12, PySem.W.mg_of X G a12, b12⟩, ⟨_, _, F13, PySem.W.mg_of X G a13, b13⟩, ⟨_, _, F14, PySem.W.mg_of X G a14, b14⟩, ⟨_, _, F15, PySem.W.mg_of X G a15, b15⟩, ⟨_, _, F16, PySem.W.mg_of X G a16, b16⟩, ⟨_, _, F17, PySem.W.mg_of X G a17, b17⟩, ⟨_, _, F18, PySem.W.mg_of X G a18, b18⟩, ⟨_, _, F19, PySem.W.mg_of X G a19, b19⟩, ⟨_, _, F20, PySem.W.mg_of X G a20, b20⟩, ⟨_, _, F21, PySem.W.mg_of X G a21, b21⟩, PySem.W.mg_none_of X G z_int, PySem.W.mg_none_of X G z_isinstance, PySem.W.mg_none_of X G z_bool, PySem.W.mg_none_of X G z_tuple, PySem.W.mg_none_of X G z_len, PySem.W.mg_none_of X G z_all, PySem.W.mg_none_of X G z_min, PySem.W.mg_none_of X G z_range, PySem.W.mg_none_of X G z_list, PySem.W.mg_none_of X G z_abs, PySem.W.mg_none_of X G z_max, ⟨_, PySem.W.mg_of X G y_CALL⟩, ⟨_, PySem.W.mg_of X G y_MAX_PARTS⟩, ⟨_, PySem.W.mg_of X G y_MAX_VARIABLE⟩, ⟨_, PySem.W.mg_of X G y_FUNCTION⟩⟩
  refine ⟨PySem.W.fnOf "law" "law" (defArgs d_law) (defBody d_law) (defScope d_law) .none kV21 dc21 pm21 an21 cd21 ct21, fun s v => .of_eq rfl, fun base _ _ => ?_⟩
  exact law_ok (ok_law (P := l.prog) (w := w) (base := base) T ⟨F21, PySem.W.mg_of X G a21, b21⟩) hT
end PL
open PySem PySem.W PyProof.Rows
set_option maxRecDepth 100000 in
set_option maxHeartbeats 0 in
theorem PySem.Challenge.cw_oncework_k00_whole_terms_and_their_parts_holds : PySem.Challenge.rw_oncework_k00_whole_terms_and_their_parts.Holds := by
  w_on; o_law; k_head; (case hw => w_witness2)
  k_fill
  refine L2.walk_of (l := PySem.Challenge.rw_oncework_k00_whole_terms_and_their_parts) (n := 63) (k := 8) (x := "script") (CX := fun _ => L2.CX0) (sp := fun w => fun vs H Q _ => ∃ (a : Addr) (ns : List Int), vs = [.ref a] ∧ L2.SqL _ H a (ns.map L2.V.int) ∧ ns.length ≤ 63 ∧ ∀ H', Q (.bl true) H') rfl (by decide) rfl ⟨rfl, by decide, by decide⟩ (fun w h Y => PySem.W.kIn_of Y) ?F (fun _ _ a ns hl _ hS => ⟨a, ns, rfl, hS, hl, fun _ => rfl⟩) (fun _ _ _ _ _ h => h)
  case F =>
    intro w mg fa h KX G hmg
    refine' PL.all_mk PL.law_true KX G hmg ?a0 ?l0 ?c0 ?k0 ?a1 ?l1 ?c1 ?k1 ?a2 ?l2 ?c2 ?k2 ?a3 ?l3 ?c3 ?k3 ?a4 ?l4 ?c4 ?k4 ?a5 ?l5 ?c5 ?k5 ?a6 ?l6 ?c6 ?k6 ?a7 ?l7 ?c7 ?k7 ?a8 ?l8 ?c8 ?k8 ?a9 ?l9 ?c9 ?k9 ?a10 ?l10 ?c10 ?k10 ?a11 ?l11 ?c11 ?k11 ?a12 ?l12 ?c12 ?k12 ?a13 ?l13 ?c13 ?k13 ?a14 ?l14 ?c14 ?k14 ?a15 ?l15 ?c15 ?k15 ?a16 ?l16 ?c16 ?k16 ?a17 ?l17 ?c17 ?k17 ?a18 ?l18 ?c18 ?k18 ?a19 ?l19 ?c19 ?k19 ?a20 ?l20 ?c20 ?k20 ?a21 ?l21 ?c21 ?k21 ?z_int ?z_isinstance ?z_bool ?z_tuple ?z_len ?z_all ?z_min ?z_range ?z_list ?z_abs ?z_max ?y_CALL ?y_MAX_PARTS ?y_MAX_VARIABLE ?y_FUNCTION
    (case a0 => k_is); (case l0 => k_is); (case c0 => k_is); (case k0 => k_is); (case a1 => k_is); (case l1 => k_is); (case c1 => k_is); (case k1 => k_is); (case a2 => k_is); (case l2 => k_is); (case c2 => k_is); (case k2 => k_is); (case a3 => k_is); (case l3 => k_is); (case c3 => k_is); (case k3 => k_is); (case a4 => k_is); (case l4 => k_is); (case c4 => k_is); (case k4 => k_is); (case a5 => k_is); (case l5 => k_is); (case c5 => k_is); (case k5 => k_is); (case a6 => k_is); (case l6 => k_is); (case c6 => k_is); (case k6 => k_is); (case a7 => k_is); (case l7 => k_is); (case c7 => k_is); (case k7 => k_is); (case a8 => k_is); (case l8 => k_is); (case c8 => k_is); (case k8 => k_is); (case a9 => k_is); (case l9 => k_is); (case c9 => k_is); (case k9 => k_is); (case a10 => k_is); (case l10 => k_is); (case c10 => k_is); (case k10 => k_is); (case a11 => k_is); (case l11 => k_is); (case c11 => k_is); (case k11 => k_is); (case a12 => k_is); (case l12 => k_is); (case c12 => k_is); (case k12 => k_is); (case a13 => k_is); (case l13 => k_is); (case c13 => k_is); (case k13 => k_is); (case a14 => k_is); (case l14 => k_is); (case c14 => k_is); (case k14 => k_is); (case a15 => k_is); (case l15 => k_is); (case c15 => k_is); (case k15 => k_is); (case a16 => k_is); (case l16 => k_is); (case c16 => k_is); (case k16 => k_is); (case a17 => k_is); (case l17 => k_is); (case c17 => k_is); (case k17 => k_is); (case a18 => k_is); (case l18 => k_is); (case c18 => k_is); (case k18 => k_is); (case a19 => k_is); (case l19 => k_is); (case c19 => k_is); (case k19 => k_is); (case a20 => k_is); (case l20 => k_is); (case c20 => k_is); (case k20 => k_is); (case a21 => k_is); (case l21 => k_is); (case c21 => k_is); (case k21 => k_is); (case z_int => k_is); (case z_isinstance => k_is); (case z_bool => k_is); (case z_tuple => k_is); (case z_len => k_is); (case z_all => k_is); (case z_min => k_is); (case z_range => k_is); (case z_list => k_is); (case z_abs => k_is); (case z_max => k_is); (case y_CALL => k_is); (case y_MAX_PARTS => k_is); (case y_MAX_VARIABLE => k_is); (case y_FUNCTION => k_is)
