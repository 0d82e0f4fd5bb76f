import PyProof.Rows.All
import Wide.All
import OpenK.AllK
import Wide.FinOn
import HandS.ForMost
import HandS.Wide
import HandS.TupAny
import HandS.Deep
import HandS.Style
import HandS.IsInst
import PyProof.IsRules
import HandS.Flow
import HandS.Defaults
import HandS.TupLen
import HandS.SortInts
import KE.SortData
import HandS.Conv
import HandS.More
import HandS.Gcd
import HandS.DictComp
import HandS.Iter
import KE.KStateDown
import HandS.Words
import HandS.WordsExc
import HandS.Head0
import HandS.Head1
import HandS.Head2
import HandS.Head3
import HandS.HeadEnd
import HandS.HeadHook1
import HandS.HeadHook2
import KE.GoesEnum
import KE.KTupSum
import KE.DataMinMax
import KE.KRevSl
import HandS.Zip
import PySem.Challenge.RW_lockwork_k67_whole_wheels_that_turn_one
set_option Elab.async false
set_option linter.all false
set_option maxRecDepth 100000
set_option maxHeartbeats 0
/-! Tree semantics over HandS: Python data as trees, a body as a function over slots. -/
namespace TR
open PySem L2

/-- Python data as a tree -/
inductive T where
  | non | bl (b : Bool) | int (i : Int) | str (x : Str)
  | tup (xs : List T) | lst (xs : List T) | frl (xs : List T) | dic (kvs : List (T × T)) | dit (kvs : List (T × T))

def keyT : Key → T
  | .inl i => .int i
  | .inr x => .str x
def keysT (ks : List Key) : T := .tup (ks.map keyT)

mutual
/-- v is the tree d, all of it laid in H -/
inductive Rp (K : PySem.W.Frag) (H : Hp) : V → T → Prop
  | non : Rp K H .non .non
  | bl (b : Bool) : Rp K H (.bl b) (.bl b)
  | int (i : Int) : Rp K H (.int i) (.int i)
  | str (x : Str) : Rp K H (.str x) (.str x)
  | lst {a : Addr} {xs : List V} {ds : List T} : H a = some (.lst xs) → RpA K H xs ds → Rp K H (.ref a) (.lst ds)
  | tup {a : Addr} {xs : List V} {ds : List T} : H a = some (.tup xs) → RpA K H xs ds → Rp K H (.ref a) (.tup ds)
  | frl {a : Addr} {xs : List V} {ds : List T} : SqL K H a xs → RpA K H xs ds → Rp K H (.ref a) (.frl ds)
  | dic {a : Addr} {kvs : List (Key × V)} {ds : List (T × T)} : Rd H a (.dK kvs) → RpK K H kvs ds → Rp K H (.ref a) (.dic ds)
  | dit {a : Addr} {kvs : List (List Key × V)} {ds : List (T × T)} : H a = some (.dT kvs) → RpT K H kvs ds → Rp K H (.ref a) (.dit ds)
inductive RpA (K : PySem.W.Frag) (H : Hp) : List V → List T → Prop
  | nil : RpA K H [] []
  | cons {v : V} {vs : List V} {d : T} {ds : List T} : Rp K H v d → RpA K H vs ds → RpA K H (v :: vs) (d :: ds)
inductive RpK (K : PySem.W.Frag) (H : Hp) : List (Key × V) → List (T × T) → Prop
  | nil : RpK K H [] []
  | cons {k : Key} {v : V} {vs : List (Key × V)} {d : T} {ds : List (T × T)} : Rp K H v d → RpK K H vs ds → RpK K H ((k, v) :: vs) ((keyT k, d) :: ds)
inductive RpT (K : PySem.W.Frag) (H : Hp) : List (List Key × V) → List (T × T) → Prop
  | nil : RpT K H [] []
  | cons {k : List Key} {v : V} {vs : List (List Key × V)} {d : T} {ds : List (T × T)} : Rp K H v d → RpT K H vs ds → RpT K H ((k, v) :: vs) ((keysT k, d) :: ds)
end

theorem Same.sqT {K : PySem.W.Frag} {H H' : Hp} {a : Addr} {xs : List V} (e : Same H H') (h : SqT K H a xs) : SqT K H' a xs := by
  rcases h with (h | ⟨o, h⟩) | h
  · exact .inl (.inl (e _ _ h))
  · exact .inl (.inr ⟨o, e _ _ h⟩)
  · exact .inr h
theorem Same.rd {H H' : Hp} {a : Addr} {u : HO} (e : Same H H') (h : Rd H a u) : Rd H' a u := by
  rcases h with h | ⟨o, h⟩
  · exact .inl (e _ _ h)
  · exact .inr ⟨o, e _ _ h⟩

section
variable {K : PySem.W.Frag} {H H' : Hp}
mutual
theorem Rp.mono (e : Same H H') : ∀ {v : V} {d : T}, Rp K H v d → Rp K H' v d
  | _, _, .non => .non
  | _, _, .bl b => .bl b
  | _, _, .int i => .int i
  | _, _, .str x => .str x
  | _, _, .lst h a => .lst (e _ _ h) (RpA.mono e a)
  | _, _, .tup h a => .tup (e _ _ h) (RpA.mono e a)
  | _, _, .frl h a => .frl (L2.Same.seq e h) (RpA.mono e a)
  | _, _, .dic h a => .dic (Same.rd e h) (RpK.mono e a)
  | _, _, .dit h a => .dit (e _ _ h) (RpT.mono e a)
theorem RpA.mono (e : Same H H') : ∀ {v : List V} {d : List T}, RpA K H v d → RpA K H' v d
  | _, _, .nil => .nil
  | _, _, .cons a b => .cons (Rp.mono e a) (RpA.mono e b)
theorem RpK.mono (e : Same H H') : ∀ {v : List (Key × V)} {d : List (T × T)}, RpK K H v d → RpK K H' v d
  | _, _, .nil => .nil
  | _, _, .cons a b => .cons (Rp.mono e a) (RpK.mono e b)
theorem RpT.mono (e : Same H H') : ∀ {v : List (List Key × V)} {d : List (T × T)}, RpT K H v d → RpT K H' v d
  | _, _, .nil => .nil
  | _, _, .cons a b => .cons (Rp.mono e a) (RpT.mono e b)
end
end

section
variable {K : PySem.W.Frag} {H : Hp}
theorem RpA.length : ∀ {vs : List V} {ds : List T}, RpA K H vs ds → vs.length = ds.length
  | _, _, .nil => rfl
  | _, _, .cons _ b => congrArg Nat.succ (RpA.length b)
theorem RpA.get : ∀ {vs : List V} {ds : List T} {i : Nat} {d : T}, RpA K H vs ds → ds[i]? = some d → ∃ v, vs[i]? = some v ∧ Rp K H v d
  | _, _, _, _, .nil, e => by simp at e
  | _, _, 0, _, .cons a _, e => by simp at e; subst e; exact ⟨_, rfl, a⟩
  | _, _, i + 1, d, .cons _ b, e => by
    obtain ⟨v, h1, h2⟩ := RpA.get (i := i) (d := d) b (by simpa using e)
    exact ⟨v, by simpa using h1, h2⟩
theorem RpA.getV : ∀ {vs : List V} {ds : List T} {i : Nat} {v : V}, RpA K H vs ds → vs[i]? = some v → ∃ d, ds[i]? = some d ∧ Rp K H v d
  | _, _, _, _, .nil, e => by simp at e
  | _, _, 0, _, .cons a _, e => by simp at e; subst e; exact ⟨_, rfl, a⟩
  | _, _, i + 1, d, .cons _ b, e => by
    obtain ⟨v, h1, h2⟩ := RpA.getV (i := i) (v := d) b (by simpa using e)
    exact ⟨v, by simpa using h1, h2⟩
theorem RpA.append : ∀ {vs ws : List V} {ds es : List T}, RpA K H vs ds → RpA K H ws es → RpA K H (vs ++ ws) (ds ++ es)
  | _, _, _, _, .nil, s => s
  | _, _, _, _, .cons a b, s => .cons a (RpA.append b s)
theorem RpA.set {v : V} {d : T} (r : Rp K H v d) : ∀ {vs : List V} {ds : List T} (i : Nat), RpA K H vs ds → RpA K H (vs.set i v) (ds.set i d)
  | _, _, _, .nil => .nil
  | _, _, 0, .cons _ b => .cons r b
  | _, _, i + 1, .cons a b => .cons a (RpA.set r i b)
theorem RpA.take : ∀ {vs : List V} {ds : List T} (n : Nat), RpA K H vs ds → RpA K H (vs.take n) (ds.take n)
  | _, _, 0, _ => .nil
  | _, _, _ + 1, .nil => .nil
  | _, _, n + 1, .cons a b => .cons a (RpA.take n b)
theorem RpA.drop : ∀ {vs : List V} {ds : List T} (n : Nat), RpA K H vs ds → RpA K H (vs.drop n) (ds.drop n)
  | _, _, 0, h => h
  | _, _, _ + 1, .nil => .nil
  | _, _, n + 1, .cons _ b => RpA.drop n b
theorem RpA.one {v : V} {d : T} (h : Rp K H v d) : RpA K H [v] [d] := .cons h .nil
theorem RpA.reverse : ∀ {vs : List V} {ds : List T}, RpA K H vs ds → RpA K H vs.reverse ds.reverse
  | _, _, .nil => .nil
  | _, _, .cons a b => by
    rw [List.reverse_cons, List.reverse_cons]
    exact (RpA.reverse b).append (.one a)
theorem RpA.of_map_int : ∀ (ns : List Int), RpA K H (ns.map V.int) (ns.map T.int)
  | [] => .nil
  | n :: r => .cons (.int n) (RpA.of_map_int r)
end

/-- what an owned root holds: its items are laid in the frozen part -/
def Own (K : PySem.W.Frag) (F H : Hp) (p : Addr) : T → Prop
  | .lst ds => ∃ vs, H p = some (.lst vs) ∧ RpA K F vs ds
  | .dic ds => ∃ kvs, H p = some (.dK kvs) ∧ RpK K F kvs ds
  | .dit ds => ∃ kvs, H p = some (.dT kvs) ∧ RpT K F kvs ds
  | _ => False
theorem Own.there {K : PySem.W.Frag} {F H : Hp} {p : Addr} : ∀ {d : T}, Own K F H p d → ∃ o, H p = some o
  | .lst _, ⟨_, h, _⟩ => ⟨_, h⟩
  | .dic _, ⟨_, h, _⟩ => ⟨_, h⟩
  | .dit _, ⟨_, h, _⟩ => ⟨_, h⟩
theorem Own.mono {K : PySem.W.Frag} {F F' H H' : Hp} {p : Addr} (e : Same F F') (h : H' p = H p) : ∀ {d : T}, Own K F H p d → Own K F' H' p d
  | .lst _, ⟨vs, a, b⟩ => ⟨vs, h.trans a, b.mono e⟩
  | .dic _, ⟨vs, a, b⟩ => ⟨vs, h.trans a, b.mono e⟩
  | .dit _, ⟨vs, a, b⟩ => ⟨vs, h.trans a, b.mono e⟩
/-- the root laid down for good -/
theorem Own.rp {K : PySem.W.Frag} {F H F' : Hp} {p : Addr} {o : HO} (e : Same F F') (h : H p = some o) (hF : F' p = some o) : ∀ {d : T}, Own K F H p d → Rp K F' (.ref p) d
  | .lst _, ⟨vs, a, b⟩ => by
    rw [h] at a
    cases a
    exact .lst hF (b.mono e)
  | .dic _, ⟨vs, a, b⟩ => by
    rw [h] at a
    cases a
    exact .dic (.inl hF) (b.mono e)
  | .dit _, ⟨vs, a, b⟩ => by
    rw [h] at a
    cases a
    exact .dit hF (b.mono e)

/-- a slot: unknown; a tree laid down; an own root; a lent root -/
inductive Sl where
  | no | fr (d : T) | ow (d : T) | ln (d : T)
abbrev Sls := List Sl

def SlOk (K : PySem.W.Frag) (F H : Hp) : Sl → Option V → Prop
  | .no, _ => True
  | .fr d, x => ∃ v, x = some v ∧ Rp K F v d
  | .ow d, x => ∃ p, x = some (.ref p) ∧ F p = none ∧ Own K F H p d
  | .ln d, x => ∃ p, x = some (.ref p) ∧ F p = none ∧ Own K F H p d
def Sl.isRoot : Sl → Bool
  | .ow _ => true
  | .ln _ => true
  | _ => false
/-- the i-th slot is the root at p -/
def RootAt (τ : Sls) (σ : St) (i : Nat) (p : Addr) : Prop := ∃ s, τ[i]? = some s ∧ s.isRoot = true ∧ σ[i]? = some (some (.ref p))
def IsRoot (τ : Sls) (σ : St) (p : Addr) : Prop := ∃ i, RootAt τ σ i p

structure Ok (K : PySem.W.Frag) (F : Hp) (τ : Sls) (σ : St) (H : Hp) : Prop where
  sub : Same F H
  len : τ.length = σ.length
  sl : ∀ (i : Nat) (s : Sl) (x : Option V), τ[i]? = some s → σ[i]? = some x → SlOk K F H s x
  ne : ∀ i j p, RootAt τ σ i p → RootAt τ σ j p → i = j

structure Stp (τ : Sls) (σ : St) (H F : Hp) (τ' : Sls) (σ' : St) (H' F' : Hp) : Prop where
  keep : ∀ b o, H b = some o → ¬ IsRoot τ σ b → H' b = some o
  dom : ∀ b o, H b = some o → ∃ o', H' b = some o'
  fr : Same F F'
  new : ∀ b o, F' b = some o → F b = some o ∨ H b = none ∨ IsRoot τ σ b
  rt : ∀ p, IsRoot τ' σ' p → IsRoot τ σ p ∨ H p = none
  ln : ∀ (i : Nat) (d : T), τ[i]? = some (Sl.ln d) → (∃ d' : T, τ'[i]? = some (Sl.ln d')) ∧ σ'[i]? = σ[i]?

section
variable {K : PySem.W.Frag} {τ τ1 τ2 : Sls} {σ σ1 σ2 : St} {H H1 H2 F F1 F2 : Hp}
theorem Ok.root (k : Ok K F τ σ H) {i : Nat} {p : Addr} (r : RootAt τ σ i p) : F p = none ∧ ∃ d, Own K F H p d := by
  obtain ⟨s, h1, h2, h3⟩ := r
  have q := k.sl i s _ h1 h3
  cases s with
  | no => cases h2
  | fr d => cases h2
  | ow d =>
    obtain ⟨p', e, a, b⟩ := q
    cases e
    exact ⟨a, d, b⟩
  | ln d =>
    obtain ⟨p', e, a, b⟩ := q
    cases e
    exact ⟨a, d, b⟩
theorem Ok.rootF (k : Ok K F τ σ H) {p : Addr} (r : IsRoot τ σ p) : F p = none := let ⟨_, r⟩ := r; (k.root r).1
theorem Ok.rootH (k : Ok K F τ σ H) {p : Addr} (r : IsRoot τ σ p) : ∃ o, H p = some o := let ⟨_, r⟩ := r; let ⟨_, _, o⟩ := k.root r; o.there
theorem Stp.refl : Stp τ σ H F τ σ H F := ⟨fun _ _ h _ => h, fun _ o h => ⟨o, h⟩, fun _ _ h => h, fun _ _ h => .inl h, fun _ h => .inl h, fun _ d h => ⟨⟨d, h⟩, rfl⟩⟩
theorem Stp.trans (a : Stp τ σ H F τ1 σ1 H1 F1) (b : Stp τ1 σ1 H1 F1 τ2 σ2 H2 F2) : Stp τ σ H F τ2 σ2 H2 F2 where
  keep := fun c o h n => b.keep c o (a.keep c o h n) fun z => (a.rt c z).elim n fun e => by rw [h] at e; cases e
  dom := fun c o h => let ⟨o', e⟩ := a.dom c o h; b.dom c o' e
  fr := a.fr.trans b.fr
  new := fun c o h => by
    rcases b.new c o h with e | e | e
    · exact a.new c o e
    · refine .inr (.inl ?_)
      cases q : H c with
      | none => rfl
      | some u =>
        obtain ⟨o', e'⟩ := a.dom c u q
        rw [e] at e'
        cases e'
    · rcases a.rt c e with e | e
      · exact .inr (.inr e)
      · exact .inr (.inl e)
  rt := fun p h => by
    rcases b.rt p h with e | e
    · exact a.rt p e
    · refine .inr ?_
      cases q : H p with
      | none => rfl
      | some u =>
        obtain ⟨o', e'⟩ := a.dom p u q
        rw [e] at e'
        cases e'
  ln := fun i d h => by
    obtain ⟨⟨d', e1⟩, e2⟩ := a.ln i d h
    obtain ⟨e3, e4⟩ := b.ln i d' e1
    exact ⟨e3, e4.trans e2⟩
/-- what was free after is free before -/
theorem Stp.free (a : Stp τ σ H F τ1 σ1 H1 F1) {p : Addr} (h : H1 p = none) : H p = none := by
  cases q : H p with
  | none => rfl
  | some u =>
    obtain ⟨o', e'⟩ := a.dom p u q
    rw [h] at e'
    cases e'

/-- nothing but new objects; the new ones may be laid down -/
structure Grow (H F H1 F1 : Hp) : Prop where
  hh : Same H H1
  ff : Same F F1
  sub : Same F1 H1
  new : ∀ b o, F1 b = some o → F b = some o ∨ H b = none
theorem Grow.refl (h : Same F H) : Grow H F H F := ⟨fun _ _ h => h, fun _ _ h => h, h, fun _ _ h => .inl h⟩
theorem Grow.trans (a : Grow H F H1 F1) (b : Grow H1 F1 H2 F2) : Grow H F H2 F2 :=
  ⟨a.hh.trans b.hh, a.ff.trans b.ff, b.sub, fun c o h => by
    rcases b.new c o h with e | e
    · exact a.new c o e
    · exact .inr (a.hh.free e)⟩
theorem Grow.upd {p : Addr} {o : HO} (h : Same F H) (hp : H p = none) : Grow H F (upd H p o) (upd F p o) := by
  have hF : F p = none := h.free hp
  refine ⟨fun b u e => ?_, fun b u e => ?_, fun b u e => ?_, fun b u e => ?_⟩
  · rw [upd_ne (ne_of_none e hp)]; exact e
  · rw [upd_ne (ne_of_none e hF)]; exact e
  · by_cases q : b = p
    · subst q; rw [upd_same] at e ⊢; exact e
    · rw [upd_ne q] at e ⊢; exact h b u e
  · by_cases q : b = p
    · subst q; exact .inr hp
    · rw [upd_ne q] at e; exact .inl e
theorem Grow.updH {p : Addr} {o : HO} (h : Same F H) (hp : H p = none) : Grow H F (L2.upd H p o) F := by
  refine ⟨fun b u e => ?_, fun b u e => e, fun b u e => ?_, fun b u e => .inl e⟩
  · rw [upd_ne (ne_of_none e hp)]; exact e
  · rw [upd_ne (ne_of_none (h b u e) hp)]; exact h b u e
theorem Ok.grow (k : Ok K F τ σ H) (g : Grow H F H1 F1) : Ok K F1 τ σ H1 := by
  have fnone : ∀ {p : Addr}, F p = none → (∃ o, H p = some o) → F1 p = none := fun {p} a ⟨o, b⟩ => by
    cases q : F1 p with
    | none => rfl
    | some u =>
      rcases g.new p u q with e | e
      · rw [a] at e; cases e
      · rw [b] at e; cases e
  refine ⟨g.sub, k.len, fun i s x h1 h2 => ?_, k.ne⟩
  have q := k.sl i s x h1 h2
  have same : ∀ {p : Addr}, (∃ o, H p = some o) → H1 p = H p := fun {p} ⟨o, e⟩ => (g.hh p o e).trans e.symm
  cases s with
  | no => trivial
  | fr d =>
    obtain ⟨v, e, r⟩ := q
    exact ⟨v, e, r.mono g.ff⟩
  | ow d =>
    obtain ⟨p, e, a, b⟩ := q
    exact ⟨p, e, fnone a b.there, b.mono g.ff (same b.there)⟩
  | ln d =>
    obtain ⟨p, e, a, b⟩ := q
    exact ⟨p, e, fnone a b.there, b.mono g.ff (same b.there)⟩
theorem Grow.step (g : Grow H F H1 F1) : Stp τ σ H F τ σ H1 F1 :=
  ⟨fun b o h _ => g.hh b o h, fun b o h => ⟨o, g.hh b o h⟩, g.ff, fun b o h => (g.new b o h).imp id .inl, fun _ h => .inl h, fun _ d h => ⟨⟨d, h⟩, rfl⟩⟩
end
end TR

namespace TR
open PySem L2

/-! ### results -/
structure R where
  d : T
  o : Bool
abbrev M (α : Type) := Sls → Option (α × Sls)

/-- a result: laid down, or a new root of its own -/
def ROk (K : PySem.W.Frag) (F' H' : Hp) (τ' : Sls) (σ' : L2.St) (τ : Sls) (σ : L2.St) (H : Hp) (v : V) (r : R) : Prop :=
  (r.o = false ∧ Rp K F' v r.d) ∨ (r.o = true ∧ ∃ p, v = .ref p ∧ F' p = none ∧ ¬ IsRoot τ' σ' p ∧ (H p = none ∨ IsRoot τ σ p) ∧ Own K F' H' p r.d)
/-- the same for an operation on values -/
def RO (K : PySem.W.Frag) (F' H' H : Hp) (v : V) (r : R) : Prop :=
  (r.o = false ∧ Rp K F' v r.d) ∨ (r.o = true ∧ ∃ p, v = .ref p ∧ F' p = none ∧ H p = none ∧ Own K F' H' p r.d)
/-- what is looked at: laid down, or a root -/
def Lk (K : PySem.W.Frag) (F H : Hp) (v : V) (d : T) : Prop := Rp K F v d ∨ ∃ p, v = .ref p ∧ Own K F H p d

section
variable {K : PySem.W.Frag} {τ τ1 τ2 : Sls} {σ σ1 σ2 : L2.St} {H H1 H2 F F1 F2 : Hp}
/-- a root of no slot is laid down for good -/
theorem Ok.lay (k : Ok K F τ σ H) {p : Addr} {o : HO} (hF : F p = none) (hH : H p = some o) (nr : ¬ IsRoot τ σ p) : Ok K (L2.upd F p o) τ σ H := by
  have sm : Same F (L2.upd F p o) := fun b u e => by rw [upd_ne (ne_of_none e hF)]; exact e
  refine ⟨fun b u e => ?_, k.len, fun i s x h1 h2 => ?_, k.ne⟩
  · by_cases q : b = p
    · subst q; rw [upd_same] at e; cases e; exact hH
    · rw [upd_ne q] at e; exact k.sub b u e
  · have q := k.sl i s x h1 h2
    cases s with
    | no => trivial
    | fr d =>
      obtain ⟨v, e, r⟩ := q
      exact ⟨v, e, r.mono sm⟩
    | ow d =>
      obtain ⟨q, e, a, b⟩ := q
      have ne : q ≠ p := fun z => nr ⟨i, _, h1, rfl, by rw [h2, e, z]⟩
      exact ⟨q, e, by rw [upd_ne ne]; exact a, b.mono sm rfl⟩
    | ln d =>
      obtain ⟨q, e, a, b⟩ := q
      have ne : q ≠ p := fun z => nr ⟨i, _, h1, rfl, by rw [h2, e, z]⟩
      exact ⟨q, e, by rw [upd_ne ne]; exact a, b.mono sm rfl⟩
theorem Same.lay {p : Addr} {o : HO} (hF : F p = none) : Same F (L2.upd F p o) := fun b u e => by rw [upd_ne (ne_of_none e hF)]; exact e

/-! ### the judgements' second halves -/
def SE (K : PySem.W.Frag) (te : TE) (f : M R) : Prop := ∀ (τ τ' : Sls) (r : R) (σ : L2.St) (H F : Hp) (Q : VK), f τ = some (r, τ') → Ok K F τ σ H →
  (∀ v H' F', Ok K F' τ' σ H' → Stp τ σ H F τ' σ H' F' → ROk K F' H' τ' σ τ σ H v r → Q v H') → te σ H Q
def SV (K : PySem.W.Frag) (te : TE) (f : M T) : Prop := ∀ (τ τ' : Sls) (d : T) (σ : L2.St) (H F : Hp) (Q : VK), f τ = some (d, τ') → Ok K F τ σ H →
  (∀ v H' F', Ok K F' τ' σ H' → Stp τ σ H F τ' σ H' F' → Rp K F' v d → Q v H') → te σ H Q
def SO (K : PySem.W.Frag) (te : TE) (f : M (Sls → Option T)) : Prop := ∀ (τ τ' : Sls) (rd : Sls → Option T) (σ : L2.St) (H F : Hp) (Q : VK), f τ = some (rd, τ') → Ok K F τ σ H →
  (∀ v H' F', Ok K F' τ' σ H' → Stp τ σ H F τ' σ H' F' →
    (∀ τ2 H2 F2 d, Ok K F2 τ2 σ H2 → Stp τ' σ H' F' τ2 σ H2 F2 → rd τ2 = some d → Lk K F2 H2 v d) → Q v H') → te σ H Q
def SB (K : PySem.W.Frag) (tt : TT) (f : M Bool) : Prop := ∀ (τ τ' : Sls) (b : Bool) (σ : L2.St) (H F : Hp) (Q : Bool → Hp → Prop), f τ = some (b, τ') → Ok K F τ σ H →
  (∀ H' F', Ok K F' τ' σ H' → Stp τ σ H F τ' σ H' F' → Q b H') → tt σ H Q
inductive Out where
  | nx (τ : Sls) | bk (τ : Sls) | ct (τ : Sls) | rt (r : R) (τ : Sls)
def Fin (K : PySem.W.Frag) (τ : Sls) (σ : L2.St) (H F : Hp) (out : Out) (D : Ends) : Prop := match out with
  | .nx τ' => ∀ σ' H' F', Ok K F' τ' σ' H' → Stp τ σ H F τ' σ' H' F' → D.nx σ' H'
  | .bk τ' => ∀ σ' H' F', Ok K F' τ' σ' H' → Stp τ σ H F τ' σ' H' F' → D.bk σ' H'
  | .ct τ' => ∀ σ' H' F', Ok K F' τ' σ' H' → Stp τ σ H F τ' σ' H' F' → D.ct σ' H'
  | .rt r τ' => ∀ v σ' H' F', Ok K F' τ' σ' H' → Stp τ σ H F τ' σ' H' F' → ROk K F' H' τ' σ' τ σ H v r → D.rt v H'
def SS (K : PySem.W.Frag) (ts : TS) (g : Sls → Option Out) : Prop := ∀ (τ : Sls) (out : Out) (σ : L2.St) (H F : Hp) (D : Ends), g τ = some out → Ok K F τ σ H → Fin K τ σ H F out D → ts D σ H

theorem ROk.back {v : V} {r : R} (s : Stp τ σ H F τ1 σ1 H1 F1) (h : ROk K F2 H2 τ2 σ2 τ1 σ1 H1 v r) : ROk K F2 H2 τ2 σ2 τ σ H v r := by
  rcases h with ⟨e, h⟩ | ⟨e, p, h1, h2, h3, h4, h5⟩
  · exact .inl ⟨e, h⟩
  · exact .inr ⟨e, p, h1, h2, h3, h4.elim (fun z => .inl (s.free z)) fun z => (s.rt p z).elim .inr .inl, h5⟩
theorem Fin.after {out : Out} {D : Ends} (s : Stp τ σ H F τ1 σ1 H1 F1) (h : Fin K τ σ H F out D) : Fin K τ1 σ1 H1 F1 out D := by
  cases out with
  | nx τ' => exact fun σ' H' F' k s' => h σ' H' F' k (s.trans s')
  | bk τ' => exact fun σ' H' F' k s' => h σ' H' F' k (s.trans s')
  | ct τ' => exact fun σ' H' F' k s' => h σ' H' F' k (s.trans s')
  | rt r τ' => exact fun v σ' H' F' k s' q => h v σ' H' F' k (s.trans s') (q.back s)
/-- an operation's result, behind a state that grew -/
theorem RO.ok {v : V} {r : R} (k : Ok K F τ σ H) (g : Grow H F H1 F1) (h : RO K F1 H1 H v r) : ROk K F1 H1 τ σ τ σ H v r := by
  rcases h with ⟨e, h⟩ | ⟨e, p, h1, h2, h3, h4⟩
  · exact .inl ⟨e, h⟩
  · exact .inr ⟨e, p, h1, h2, (fun z => by obtain ⟨o, e⟩ := k.rootH z; rw [h3] at e; cases e), .inl h3, h4⟩

/-! ### laying a result down -/
def fz (f : M R) : M T := fun τ => match f τ with
  | some (r, τ1) => some (r.d, τ1)
  | none => none
theorem SE.fz {te : TE} {f : M R} (h : SE K te f) : SV K te (fz f) := by
  intro τ τ' d σ H F Q e k c
  unfold TR.fz at e
  split at e
  · rename_i r τ1 e1
    cases e
    refine h τ _ r σ H F Q e1 k fun v H' F' k' s q => ?_
    rcases q with ⟨_, q⟩ | ⟨_, p, rfl, q2, q3, q4, q5⟩
    · exact c v H' F' k' s q
    · obtain ⟨o, e⟩ := q5.there
      refine c _ H' (L2.upd F' p o) (k'.lay q2 e q3) ⟨s.keep, s.dom, s.fr.trans (Same.lay q2), fun b u z => ?_, s.rt, s.ln⟩ (q5.rp (Same.lay q2) e upd_same)
      by_cases hb : b = p
      · subst hb; exact .inr q4
      · rw [upd_ne hb] at z; exact s.new b u z
  · cases e
/-- laid down, as a result -/
def rv (f : M T) : M R := fun τ => match f τ with
  | some (d, τ1) => some (⟨d, false⟩, τ1)
  | none => none
theorem SV.rv {te : TE} {f : M T} (h : SV K te f) : SE K te (rv f) := by
  intro τ τ' r σ H F Q e k c
  unfold TR.rv at e
  split at e
  · rename_i d τ1 e1
    cases e
    exact h τ _ d σ H F Q e1 k fun v H' F' k' s q => c v H' F' k' s (.inl ⟨rfl, q⟩)
  · cases e
/-- .. as an operand -/
def ov (f : M T) : M (Sls → Option T) := fun τ => match f τ with
  | some (d, τ1) => some (fun _ => some d, τ1)
  | none => none
theorem SV.ov {te : TE} {f : M T} (h : SV K te f) : SO K te (ov f) := by
  intro τ τ' rd σ H F Q e k c
  unfold TR.ov at e
  split at e
  · rename_i d τ1 e1
    cases e
    refine h τ _ d σ H F Q e1 k fun v H' F' k' s q => c v H' F' k' s fun τ2 H2 F2 d' k2 s2 e2 => ?_
    cases e2
    exact .inl (q.mono s2.fr)
  · cases e

/-! ### names -/
def slT : Option Sl → Option T
  | some (.fr d) => some d
  | some (.ow d) => some d
  | some (.ln d) => some d
  | _ => none
/-- a name read as a value: an own root is laid down -/
def vrd (i : Nat) : M T := fun τ => match τ[i]? with
  | some (.fr d) => some (d, τ)
  | some (.ow d) => some (d, τ.set i (.fr d))
  | _ => none
/-- a name as an operand -/
def prd (i : Nat) : M (Sls → Option T) := fun τ => some (fun τ2 => slT τ2[i]?, τ)

theorem Ok.val (k : Ok K F τ σ H) {i : Nat} {s : Sl} (h : τ[i]? = some s) (hn : s ≠ .no) : ∃ v, σ[i]? = some (some v) ∧ ∀ {d}, slT (some s) = some d → Lk K F H v d := by
  have hi : i < σ.length := by rw [← k.len]; exact (List.getElem?_eq_some_iff.mp h).1
  have hx : σ[i]? = some σ[i] := List.getElem?_eq_getElem hi
  have q := k.sl i s _ h hx
  cases s with
  | no => exact absurd rfl hn
  | fr d =>
    obtain ⟨v, e, r⟩ := q
    rw [e] at hx
    exact ⟨v, hx, fun e => by cases e; exact .inl r⟩
  | ow d =>
    obtain ⟨p, e, a, b⟩ := q
    rw [e] at hx
    exact ⟨_, hx, fun e => by cases e; exact .inr ⟨p, rfl, b⟩⟩
  | ln d =>
    obtain ⟨p, e, a, b⟩ := q
    rw [e] at hx
    exact ⟨_, hx, fun e => by cases e; exact .inr ⟨p, rfl, b⟩⟩

theorem rootAt_set {i j : Nat} {s : Sl} {p : Addr} (h : s.isRoot = false) (r : RootAt (τ.set i s) σ j p) : j ≠ i ∧ RootAt τ σ j p := by
  obtain ⟨s', h1, h2, h3⟩ := r
  by_cases q : i = j
  · subst q
    by_cases hl : i < τ.length
    · rw [List.getElem?_set_self hl] at h1
      cases h1
      rw [h] at h2
      cases h2
    · rw [List.getElem?_eq_none (by simpa using hl)] at h1
      cases h1
  · rw [List.getElem?_set_ne q] at h1
    exact ⟨fun e => q e.symm, s', h1, h2, h3⟩

/-- an own root is laid down -/
theorem Ok.freeze (k : Ok K F τ σ H) {i : Nat} {d : T} (h : τ[i]? = some (.ow d)) :
    ∃ p F', σ[i]? = some (some (.ref p)) ∧ Ok K F' (τ.set i (.fr d)) σ H ∧ Stp τ σ H F (τ.set i (.fr d)) σ H F' ∧ Rp K F' (.ref p) d := by
  have hl : i < τ.length := (List.getElem?_eq_some_iff.mp h).1
  have hi : i < σ.length := by rw [← k.len]; exact hl
  have hx : σ[i]? = some σ[i] := List.getElem?_eq_getElem hi
  obtain ⟨p, e, a, b⟩ := k.sl i _ _ h hx
  rw [e] at hx
  obtain ⟨o, ho⟩ := b.there
  have ri : RootAt τ σ i p := ⟨_, h, rfl, hx⟩
  have k1 : Ok K F (τ.set i .no) σ H := by
    refine ⟨k.sub, by rw [List.length_set]; exact k.len, fun j s x h1 h2 => ?_, fun j l q r1 r2 => k.ne j l q (rootAt_set rfl r1).2 (rootAt_set rfl r2).2⟩
    by_cases q : i = j
    · subst q
      rw [List.getElem?_set_self hl] at h1
      cases h1
      trivial
    · rw [List.getElem?_set_ne q] at h1
      exact k.sl j s x h1 h2
  have nr : ¬ IsRoot (τ.set i .no) σ p := fun ⟨j, r⟩ => (rootAt_set rfl r).1 (k.ne j i p (rootAt_set rfl r).2 ri)
  have k2 := k1.lay a ho nr
  have rp : Rp K (L2.upd F p o) (.ref p) d := b.rp (Same.lay a) ho upd_same
  refine ⟨p, L2.upd F p o, hx, ⟨k2.sub, by rw [List.length_set]; exact k.len, fun j s x h1 h2 => ?_, fun j l q r1 r2 => k.ne j l q (rootAt_set rfl r1).2 (rootAt_set rfl r2).2⟩, ?_, rp⟩
  · by_cases q : i = j
    · subst q
      rw [List.getElem?_set_self hl] at h1
      cases h1
      rw [hx] at h2
      cases h2
      exact ⟨_, rfl, rp⟩
    · have h1' := h1
      rw [List.getElem?_set_ne q] at h1'
      exact k2.sl j s x (by rw [List.getElem?_set_ne q]; exact h1') h2
  · refine ⟨fun b u e _ => e, fun b u e => ⟨u, e⟩, Same.lay a, fun b u e => ?_, fun q ⟨j, r⟩ => .inl ⟨j, (rootAt_set rfl r).2⟩, fun j d' e => ⟨⟨d', ?_⟩, rfl⟩⟩
    · by_cases hb : b = p
      · subst hb; exact .inr (.inr ⟨i, ri⟩)
      · rw [upd_ne hb] at e; exact .inl e
    · have q : i ≠ j := fun z => by subst z; rw [h] at e; cases e
      rw [List.getElem?_set_ne q]; exact e
theorem sv_var {i : Nat} : SV K (tVar i) (vrd i) := by
  intro τ τ' d σ H F Q e k c
  unfold vrd at e
  split at e
  · rename_i d' e1
    cases e
    have hi : i < σ.length := by rw [← k.len]; exact (List.getElem?_eq_some_iff.mp e1).1
    have hx : σ[i]? = some σ[i] := List.getElem?_eq_getElem hi
    obtain ⟨v, e, r⟩ := k.sl i _ _ e1 hx
    rw [e] at hx
    exact ⟨v, hx, c v H F k .refl r⟩
  · rename_i d' e1
    cases e
    obtain ⟨p, F', h1, h2, h3, h4⟩ := k.freeze e1
    exact ⟨_, h1, c _ H F' h2 h3 h4⟩
  · cases e
/-- needs the slot to be filled -/
def prdOk (i : Nat) : M (Sls → Option T) := fun τ => match slT τ[i]? with
  | some _ => some (fun τ2 => slT τ2[i]?, τ)
  | none => none
theorem so_var {i : Nat} : SO K (tVar i) (prdOk i) := by
  intro τ τ' rd σ H F Q e k c
  unfold prdOk at e
  split at e
  · rename_i d e1
    cases e
    cases es : τ[i]? with
    | none => rw [es] at e1; cases e1
    | some s =>
      have hn : s ≠ .no := fun z => by rw [es, z] at e1; cases e1
      obtain ⟨v, hv, _⟩ := k.val es hn
      refine ⟨v, hv, c v H F k .refl fun τ2 H2 F2 d2 k2 s2 e2 => ?_⟩
      replace e2 : slT τ2[i]? = some d2 := e2
      cases es2 : τ2[i]? with
      | none => rw [es2] at e2; cases e2
      | some s' =>
        rw [es2] at e2
        have hn2 : s' ≠ .no := fun z => by rw [z] at e2; cases e2
        obtain ⟨v', hv', l⟩ := k2.val es2 hn2
        rw [hv] at hv'
        cases hv'
        exact l e2
  · cases e
def cst (d : T) : M T := fun τ => some (d, τ)
theorem sv_c {v : V} {d : T} (h : ∀ H, Rp K H v d) : SV K (tC v) (cst d) := by
  intro τ τ' d' σ H F Q e k c
  cases e
  exact c v H F k .refl (h F)
end
end TR

namespace TR
open PySem L2

/-! ### trees as the library's data -/
mutual
def T.toD : T → PyData
  | .non => .none
  | .bl b => .bool b
  | .int i => .int i
  | .str x => .str x
  | .tup xs => .tuple (toDA xs)
  | .lst xs => .list (toDA xs)
  | .frl xs => .list (toDA xs)
  | .dic _ => .dict []
  | .dit _ => .dict []
def toDA : List T → List PyData
  | [] => []
  | x :: xs => x.toD :: toDA xs
end
mutual
def T.lay : T → Bool
  | .non => true
  | .bl _ => true
  | .int _ => true
  | .str x => PyData.canLay0 (.str x)
  | .tup xs => layA xs
  | .lst xs => layA xs
  | .frl xs => layA xs
  | .dic _ => false
  | .dit _ => false
def layA : List T → Bool
  | [] => true
  | x :: xs => x.lay && layA xs
end
mutual
def T.dep : T → Nat
  | .non => 0
  | .bl _ => 0
  | .int _ => 0
  | .str _ => 0
  | .tup xs => depA xs + 1
  | .lst xs => depA xs + 1
  | .frl xs => depA xs + 1
  | .dic _ => 1
  | .dit _ => 1
def depA : List T → Nat
  | [] => 0
  | x :: xs => max x.dep (depA xs)
end
mutual
/-- == -/
def T.eqv : T → T → Bool
  | .non, .non => true
  | .bl a, .bl b => a == b
  | .bl a, .int j => (if a then 1 else 0) == j
  | .int i, .bl b => i == (if b then 1 else 0)
  | .int i, .int j => i == j
  | .str x, .str y => x == y
  | .lst xs, .lst ys => eqvA xs ys
  | .lst xs, .frl ys => eqvA xs ys
  | .frl xs, .lst ys => eqvA xs ys
  | .frl xs, .frl ys => eqvA xs ys
  | .tup xs, .tup ys => eqvA xs ys
  | _, _ => false
def eqvA : List T → List T → Bool
  | [], [] => true
  | x :: xs, y :: ys => x.eqv y && eqvA xs ys
  | _, _ => false
end
def T.shp (d : T) : Bool := d.lay && decide (d.dep ≤ 64)
mutual
theorem lay_toD : ∀ d : T, PyData.canLay0 d.toD = d.lay
  | .non => rfl
  | .bl _ => rfl
  | .int _ => rfl
  | .str x => rfl
  | .tup xs => lay_toDA xs
  | .lst xs => lay_toDA xs
  | .frl xs => lay_toDA xs
  | .dic _ => rfl
  | .dit _ => rfl
theorem lay_toDA : ∀ ds : List T, PyData.canLayAll0 (toDA ds) = layA ds
  | [] => rfl
  | x :: xs => by
    show (PyData.canLay0 x.toD && PyData.canLayAll0 (toDA xs)) = (x.lay && layA xs)
    rw [lay_toD x, lay_toDA xs]
end
mutual
theorem dep_toD : ∀ d : T, PyData.depth d.toD = d.dep
  | .non => rfl
  | .bl _ => rfl
  | .int _ => rfl
  | .str x => rfl
  | .tup xs => congrArg (· + 1) (dep_toDA xs)
  | .lst xs => congrArg (· + 1) (dep_toDA xs)
  | .frl xs => congrArg (· + 1) (dep_toDA xs)
  | .dic _ => rfl
  | .dit _ => rfl
theorem dep_toDA : ∀ ds : List T, PyData.depthAll (toDA ds) = depA ds
  | [] => rfl
  | x :: xs => by
    show max (PyData.depth x.toD) (PyData.depthAll (toDA xs)) = max x.dep (depA xs)
    rw [dep_toD x, dep_toDA xs]
end
mutual
theorem eqv_toD : ∀ a b : T, PyData.eqv a.toD b.toD = a.eqv b
  | .non, b => by cases b <;> rfl
  | .bl _, b => by cases b <;> rfl
  | .int _, b => by cases b <;> rfl
  | .str _, b => by cases b <;> rfl
  | .dic _, b => by cases b <;> rfl
  | .dit _, b => by cases b <;> rfl
  | .tup xs, b => by
    cases b with
    | tup ys => exact eqv_toDA xs ys
    | _ => rfl
  | .lst xs, b => by
    cases b with
    | lst ys => exact eqv_toDA xs ys
    | frl ys => exact eqv_toDA xs ys
    | _ => rfl
  | .frl xs, b => by
    cases b with
    | lst ys => exact eqv_toDA xs ys
    | frl ys => exact eqv_toDA xs ys
    | _ => rfl
theorem eqv_toDA : ∀ as bs : List T, PyData.eqvAll (toDA as) (toDA bs) = eqvA as bs
  | [], [] => rfl
  | [], _ :: _ => rfl
  | _ :: _, [] => rfl
  | x :: xs, y :: ys => by
    show (PyData.eqv x.toD y.toD && PyData.eqvAll (toDA xs) (toDA ys)) = (x.eqv y && eqvA xs ys)
    rw [eqv_toD x y, eqv_toDA xs ys]
end
theorem shp_ok {d : T} (h : d.shp = true) : SeqAt.shaped d.toD = true := by
  unfold T.shp at h
  unfold SeqAt.shaped
  rw [lay_toD, dep_toD]
  exact h
section
variable {K : PySem.W.Frag} {H : Hp}
mutual
theorem Rp.dp : ∀ {v : V} {d : T}, Rp K H v d → d.lay = true → Dp K H v d.toD
  | _, _, .non, _ => .non
  | _, _, .bl b, _ => .bl b
  | _, _, .int i, _ => .int i
  | _, _, .str x, _ => .str x
  | _, _, .lst h a, l => .lst (.inl (.inl h)) (RpA.dp a l)
  | _, _, .tup h a, l => .tup (.inl (.inl h)) (RpA.dp a l)
  | _, _, .frl h a, l => .lst h (RpA.dp a l)
  | _, _, .dic h a, l => by cases l
  | _, _, .dit h a, l => by cases l
theorem RpA.dp : ∀ {vs : List V} {ds : List T}, RpA K H vs ds → layA ds = true → DpAll K H vs (toDA ds)
  | _, _, .nil, _ => .nil
  | _, x :: xs, .cons a b, l => by
    have l' : (x.lay && layA xs) = true := l
    rw [Bool.and_eq_true] at l'
    exact .cons (Rp.dp a l'.1) (RpA.dp b l'.2)
end
end
section
variable {K : PySem.W.Frag} {F H : Hp}
theorem Lk.mono {H' F' : Hp} {v : V} {d : T} (l : Lk K F H v d) (ff : Same F F') (hh : Same H H') : Lk K F' H' v d := by
  rcases l with l | ⟨p, e, o⟩
  · exact .inl (l.mono ff)
  · obtain ⟨u, hu⟩ := o.there
    exact .inr ⟨p, e, o.mono ff ((hh p u hu).trans hu.symm)⟩
theorem Lk.dp {v : V} {d : T} (s : Same F H) (l : Lk K F H v d) (y : d.lay = true) : Dp K H v d.toD := by
  rcases l with l | ⟨p, rfl, o⟩
  · exact (l.mono s).dp y
  · cases d with
    | lst ds =>
      obtain ⟨vs, h, a⟩ := o
      exact .lst (.inl (.inl h)) ((a.mono s).dp y)
    | dic _ => cases y
    | dit _ => cases y
    | _ => exact o.elim
theorem Lk.int {v : V} {i : Int} (l : Lk K F H v (.int i)) : v = .int i := by
  rcases l with l | ⟨p, rfl, o⟩
  · cases l; rfl
  · exact o.elim
theorem Lk.bl {v : V} {i : Bool} (l : Lk K F H v (.bl i)) : v = .bl i := by
  rcases l with l | ⟨p, rfl, o⟩
  · cases l; rfl
  · exact o.elim
theorem Lk.str {v : V} {i : Str} (l : Lk K F H v (.str i)) : v = .str i := by
  rcases l with l | ⟨p, rfl, o⟩
  · cases l; rfl
  · exact o.elim
theorem Lk.non {v : V} (l : Lk K F H v .non) : v = .non := by
  rcases l with l | ⟨p, rfl, o⟩
  · cases l; rfl
  · exact o.elim
theorem Lk.lst {v : V} {ds : List T} (s : Same F H) (l : Lk K F H v (.lst ds)) : ∃ a vs, v = .ref a ∧ H a = some (.lst vs) ∧ RpA K F vs ds := by
  rcases l with l | ⟨p, rfl, vs, h, a⟩
  · cases l with
    | lst h a => exact ⟨_, _, rfl, s _ _ h, a⟩
  · exact ⟨p, vs, rfl, h, a⟩
theorem Lk.frl {v : V} {ds : List T} (s : Same F H) (l : Lk K F H v (.frl ds)) : ∃ a vs, v = .ref a ∧ SqL K H a vs ∧ RpA K F vs ds := by
  rcases l with l | ⟨p, rfl, o⟩
  · cases l with
    | frl h a => exact ⟨_, _, rfl, s.seq h, a⟩
  · exact o.elim
theorem Lk.tup {v : V} {ds : List T} (s : Same F H) (l : Lk K F H v (.tup ds)) : ∃ a vs, v = .ref a ∧ H a = some (.tup vs) ∧ RpA K F vs ds := by
  rcases l with l | ⟨p, rfl, o⟩
  · cases l with
    | tup h a => exact ⟨_, _, rfl, s _ _ h, a⟩
  · exact o.elim
theorem Lk.dic {v : V} {ds : List (T × T)} (s : Same F H) (l : Lk K F H v (.dic ds)) : ∃ a kvs, v = .ref a ∧ Rd H a (.dK kvs) ∧ RpK K F kvs ds := by
  rcases l with l | ⟨p, rfl, kvs, h, a⟩
  · cases l with
    | dic h a => exact ⟨_, _, rfl, Same.rd s h, a⟩
  · exact ⟨p, kvs, rfl, .inl h, a⟩
theorem Lk.dit {v : V} {ds : List (T × T)} (s : Same F H) (l : Lk K F H v (.dit ds)) : ∃ a kvs, v = .ref a ∧ H a = some (.dT kvs) ∧ RpT K F kvs ds := by
  rcases l with l | ⟨p, rfl, kvs, h, a⟩
  · cases l with
    | dit h a => exact ⟨_, _, rfl, s _ _ h, a⟩
  · exact ⟨p, kvs, rfl, h, a⟩
/-- a list, tracked or known -/
def T.seqL : T → Option (List T)
  | .lst ds => some ds
  | .frl ds => some ds
  | _ => none
theorem Lk.seqL {v : V} {d : T} {ds : List T} (s : Same F H) (l : Lk K F H v d) (e : d.seqL = some ds) : ∃ a vs, v = .ref a ∧ SqL K H a vs ∧ RpA K F vs ds := by
  cases d with
  | lst xs =>
    cases e
    obtain ⟨a, vs, h1, h2, h3⟩ := l.lst s
    exact ⟨a, vs, h1, .inl (.inl h2), h3⟩
  | frl xs =>
    cases e
    exact l.frl s
  | _ => cases e
end

/-! ### operations on values -/
def R2S (K : PySem.W.Frag) (r : R2) (g : T → T → Option R) : Prop := ∀ (x y : V) (a b : T) (res : R) (F H : Hp) (Q : VK), g a b = some res → Same F H → Lk K F H x a → Lk K F H y b →
  (∀ v H' F', Grow H F H' F' → RO K F' H' H v res → Q v H') → r x y H Q
def R1S (K : PySem.W.Frag) (r : V → Hp → VK → Prop) (g : T → Option R) : Prop := ∀ (x : V) (a : T) (res : R) (F H : Hp) (Q : VK), g a = some res → Same F H → Lk K F H x a →
  (∀ v H' F', Grow H F H' F' → RO K F' H' H v res → Q v H') → r x H Q
theorem OpR.or {X : Cx} {f : Value → Value → Sem Value} {r r' : R2} (h : OpR X f r) (h' : OpR X f r') : OpR X f (fun x y H Q => r x y H Q ∨ r' x y H Q) := by
  intro pins s σ H x y v u Q I rx ry q
  rcases q with q | q
  · exact h pins s σ H x y v u Q I rx ry q
  · exact h' pins s σ H x y v u Q I rx ry q
abbrev ri (i : Int) : R := ⟨.int i, false⟩
abbrev rb (b : Bool) : R := ⟨.bl b, false⟩
section
variable {K : PySem.W.Frag} {F H : Hp}
theorem ro_fr {F' H' : Hp} {v : V} {d : T} (h : Rp K F' v d) : RO K F' H' H v ⟨d, false⟩ := .inl ⟨rfl, h⟩
theorem ro_new {p : Addr} {vs : List V} {ds : List T} (s : Same F H) (hp : H p = none) (a : RpA K F vs ds) : RO K F (L2.upd H p (.lst vs)) H (.ref p) ⟨.lst ds, true⟩ :=
  .inr ⟨rfl, p, rfl, s.free hp, hp, vs, upd_same, a⟩
theorem new_tup {p : Addr} {vs : List V} {ds : List T} {Q : VK} (s : Same F H) (hp : H p = none) (a : RpA K F vs ds) (c : ∀ v H' F', Grow H F H' F' → RO K F' H' H v ⟨.tup ds, false⟩ → Q v H') : Q (.ref p) (L2.upd H p (.tup vs)) := by
  have g := Grow.upd (o := .tup vs) s hp
  exact c _ _ _ g (ro_fr (.tup upd_same (a.mono g.ff)))
theorem new_lst {p : Addr} {vs : List V} {ds : List T} {Q : VK} (s : Same F H) (hp : H p = none) (a : RpA K F vs ds) (c : ∀ v H' F', Grow H F H' F' → RO K F' H' H v ⟨.lst ds, true⟩ → Q v H') : Q (.ref p) (L2.upd H p (.lst vs)) :=
  c _ _ _ (Grow.updH s hp) (ro_new s hp a)
theorem here {v : V} {d : T} {Q : VK} (s : Same F H) (h : Rp K F v d) (c : ∀ v H' F', Grow H F H' F' → RO K F' H' H v ⟨d, false⟩ → Q v H') : Q v H := c v H F (.refl s) (ro_fr h)
end

/-- + -/
def addG : T → T → Option R
  | .int i, .int j => some (ri (i + j))
  | .str x, .str y => if x.length + y.length ≤ sizeLine then some ⟨.str (x ++ y), false⟩ else none
  | .lst xs, .lst ys => if xs.length + ys.length ≤ sizeLine then some ⟨.lst (xs ++ ys), true⟩ else none
  | .tup xs, .tup ys => if xs.length + ys.length ≤ sizeLine then some ⟨.tup (xs ++ ys), false⟩ else none
  | _, _ => none
def rAdd (K : PySem.W.Frag) : R2 := fun x y H Q => (∃ i j, x = .int i ∧ y = .int j ∧ Q (.int (i + j)) H) ∨ (∃ i j, x = .str i ∧ y = .str j ∧ i.length + j.length ≤ sizeLine ∧ Q (.str (i ++ j)) H) ∨ rCat x y H Q ∨ rCatA K x y H Q
theorem op_addG {X : Cx} : OpR X (binaryOp .Add) (rAdd X.K) := OpR.or op_add (OpR.or op_add_str (OpR.or op_cat op_catA))
theorem RpA.nil_iff {K : PySem.W.Frag} {F : Hp} {vs : List V} {ds : List T} (a : RpA K F vs ds) : vs = [] ↔ ds = [] := by
  cases a <;> simp
theorem s_add {K : PySem.W.Frag} : R2S K (rAdd K) addG := by
  intro x y a b res F H Q e s lx ly c
  unfold addG at e
  split at e
  · cases e
    rw [lx.int, ly.int]
    exact .inl ⟨_, _, rfl, rfl, here s (.int _) c⟩
  · rename_i i j
    split at e
    · rename_i hz
      cases e
      rw [lx.str, ly.str]
      exact .inr (.inl ⟨_, _, rfl, rfl, hz, here s (.str _) c⟩)
    · cases e
  · rename_i xs ys
    split at e
    · rename_i hz
      cases e
      obtain ⟨p, vs, rfl, hp, ap⟩ := lx.lst s
      obtain ⟨q, ws, rfl, hq, aq⟩ := ly.lst s
      exact .inr (.inr (.inl ⟨p, q, vs, ws, rfl, rfl, hp, hq, by rw [ap.length, aq.length]; exact hz, fun l hl => new_lst s hl (ap.append aq) c⟩))
    · cases e
  · rename_i xs ys
    split at e
    · rename_i hz
      cases e
      obtain ⟨p, vs, rfl, hp, ap⟩ := lx.tup s
      obtain ⟨q, ws, rfl, hq, aq⟩ := ly.tup s
      refine .inr (.inr (.inr ⟨p, q, vs, ws, rfl, rfl, SqT.of hp, SqT.of hq, by rw [ap.length, aq.length]; exact hz, fun e1 => ?_, fun e1 e2 => ?_, fun e1 e2 l hl => new_tup s hl (ap.append aq) c⟩))
      · rw [ap.nil_iff] at e1
        subst e1
        rcases ly with l | ⟨_, _, o⟩
        · exact here s l c
        · exact o.elim
      · rw [aq.nil_iff] at e2
        subst e2
        rw [List.append_nil] at c
        rcases lx with l | ⟨_, _, o⟩
        · exact here s l c
        · exact o.elim
    · cases e
  · cases e
def subG : T → T → Option R
  | .int i, .int j => some (ri (i - j))
  | _, _ => none
theorem s_int0 {K : PySem.W.Frag} {f : Int → Int → Int} {g : T → T → Option R} (h : ∀ a b r, g a b = some r → ∃ i j, a = .int i ∧ b = .int j ∧ r = ri (f i j)) : R2S K (rI0 fun i j => .int (f i j)) g := by
  intro x y a b res F H Q e s lx ly c
  obtain ⟨i, j, rfl, rfl, rfl⟩ := h a b res e
  rw [lx.int, ly.int]
  exact ⟨_, _, rfl, rfl, here s (.int _) c⟩
theorem s_intC {K : PySem.W.Frag} {C : Int → Int → Prop} {f : Int → Int → Int} {g : T → T → Option R} (h : ∀ a b r, g a b = some r → ∃ i j, a = .int i ∧ b = .int j ∧ C i j ∧ r = ri (f i j)) : R2S K (rI C fun i j => .int (f i j)) g := by
  intro x y a b res F H Q e s lx ly c
  obtain ⟨i, j, rfl, rfl, hc, rfl⟩ := h a b res e
  rw [lx.int, ly.int]
  exact ⟨_, _, rfl, rfl, hc, here s (.int _) c⟩
theorem s_sub {K : PySem.W.Frag} : R2S K (rI0 fun i j => .int (i - j)) subG := s_int0 fun a b r e => by
  unfold subG at e
  split at e
  · cases e; exact ⟨_, _, rfl, rfl, rfl⟩
  · cases e
/-- * -/
def mulOk (i j : Int) : Bool := decide (i.natAbs < 2 ^ 64) || (decide (j.natAbs < 2 ^ 64) || (decide (i.natAbs < 2 ^ 4096) && decide (j.natAbs < 2 ^ 4096)))
def mulG : T → T → Option R
  | .int i, .int j => if mulOk i j then some (ri (i * j)) else none
  | .lst xs, .int k => if k < 2 ^ 31 ∧ -(2 ^ 31) < k ∧ xs.length * k.toNat ≤ sizeLine then some ⟨.lst (List.replicate k.toNat xs).flatten, true⟩ else none
  | _, _ => none
end TR

namespace TR
open PySem L2

def rMulG : R2 := fun x y H Q => rI CMul (fun i j => .int (i * j)) x y H Q ∨ rI CMulW (fun i j => .int (i * j)) x y H Q ∨ rRep x y H Q
theorem op_mulG {X : Cx} : OpR X (binaryOp .Mult) rMulG := OpR.or op_mul (OpR.or op_mulW op_rep)
theorem RpA.replicate {K : PySem.W.Frag} {F : Hp} {vs : List V} {ds : List T} (a : RpA K F vs ds) : ∀ n : Nat, RpA K F (List.replicate n vs).flatten (List.replicate n ds).flatten
  | 0 => .nil
  | n + 1 => by
    rw [List.replicate_succ, List.replicate_succ, List.flatten_cons, List.flatten_cons]
    exact a.append (RpA.replicate a n)
theorem s_mul {K : PySem.W.Frag} : R2S K rMulG mulG := by
  intro x y a b res F H Q e s lx ly c
  unfold mulG at e
  split at e
  · rename_i i j
    split at e
    · rename_i hz
      cases e
      rw [lx.int, ly.int]
      unfold mulOk at hz
      simp only [Bool.or_eq_true, Bool.and_eq_true, decide_eq_true_eq] at hz
      rcases hz with h | h | ⟨h1, h2⟩
      · exact .inl ⟨_, _, rfl, rfl, .inl (by omega), here s (.int _) c⟩
      · exact .inl ⟨_, _, rfl, rfl, .inr (by omega), here s (.int _) c⟩
      · exact .inr (.inl ⟨_, _, rfl, rfl, wide_mul h1 h2 (by omega) (by omega) (by omega), here s (.int _) c⟩)
    · cases e
  · rename_i xs k
    split at e
    · rename_i hz
      cases e
      obtain ⟨p, vs, rfl, hp, ap⟩ := lx.lst s
      rw [ly.int]
      exact .inr (.inr ⟨p, k, vs, rfl, rfl, hp, by omega, by omega, by rw [ap.length]; exact hz.2.2, fun l hl => new_lst s hl (ap.replicate _) c⟩)
    · cases e
  · cases e
def modG : T → T → Option R
  | .int i, .int j => if j = 0 then none else some (ri (i.fmod j))
  | _, _ => none
theorem s_mod {K : PySem.W.Frag} : R2S K (rI (fun _ j => j ≠ 0) fun i j => .int (i.fmod j)) modG := s_intC fun a b r e => by
  unfold modG at e
  split at e
  · split at e
    · cases e
    · cases e; exact ⟨_, _, rfl, rfl, by assumption, rfl⟩
  · cases e
def fdivOk (j : Int) : Bool := decide (j ≠ 0) && (decide (j.natAbs < 1073741824) || (decide (0 < j) && decide (j.natAbs < 2 ^ 4096)))
def fdivG : T → T → Option R
  | .int i, .int j => if fdivOk j then some (ri (i.fdiv j)) else none
  | _, _ => none
def rFdivG : R2 := fun x y H Q => rI CDivN (fun i j => .int (i.fdiv j)) x y H Q ∨ rI CDivW (fun i j => .int (i / j)) x y H Q
theorem op_fdivG {X : Cx} : OpR X (binaryOp .FloorDiv) rFdivG := OpR.or op_fdivN op_fdivW
theorem s_fdiv {K : PySem.W.Frag} : R2S K rFdivG fdivG := by
  intro x y a b res F H Q e s lx ly c
  unfold fdivG at e
  split at e
  · rename_i i j
    split at e
    · rename_i hz
      cases e
      rw [lx.int, ly.int]
      unfold fdivOk at hz
      simp only [Bool.or_eq_true, Bool.and_eq_true, decide_eq_true_eq] at hz
      obtain ⟨h0, h | ⟨h1, h2⟩⟩ := hz
      · exact .inl ⟨_, _, rfl, rfl, ⟨h0, h⟩, here s (.int _) c⟩
      · refine .inr ⟨_, _, rfl, rfl, wide_div h1 h2 (by omega) (by omega), ?_⟩
        have e1 : i / j = i.fdiv j := (Int.fdiv_eq_ediv_of_nonneg i (by omega)).symm
        show Q (.int (i / j)) H
        rw [e1]
        exact here s (.int _) c
    · cases e
  · cases e
def powOk (i j : Int) : Bool := decide (0 ≤ j) && (Nat.ble j.natAbs 1000000 && decide (i.natAbs < 2 ^ 64))
def powG : T → T → Option R
  | .int i, .int j => if powOk i j then some (ri (i ^ j.toNat)) else none
  | _, _ => none
theorem s_pow {K : PySem.W.Frag} : R2S K (rI CPow fun i j => .int (i ^ j.toNat)) powG := s_intC fun a b r e => by
  unfold powG at e
  split at e
  · split at e
    · rename_i h
      simp only [powOk, Bool.and_eq_true, decide_eq_true_eq] at h
      have hb := Nat.le_of_ble_eq_true h.2.1
      cases e; exact ⟨_, _, rfl, rfl, ⟨h.1, by omega, h.2.2⟩, rfl⟩
    · cases e
  · cases e
def shlG : T → T → Option R
  | .int i, .int j => if powOk i j then some (ri (i * 2 ^ j.toNat)) else none
  | _, _ => none
theorem s_shl {K : PySem.W.Frag} : R2S K (rI CPow fun i j => .int (i * 2 ^ j.toNat)) shlG := s_intC fun a b r e => by
  unfold shlG at e
  split at e
  · split at e
    · rename_i h
      simp only [powOk, Bool.and_eq_true, decide_eq_true_eq] at h
      have hb := Nat.le_of_ble_eq_true h.2.1
      cases e; exact ⟨_, _, rfl, rfl, ⟨h.1, by omega, h.2.2⟩, rfl⟩
    · cases e
  · cases e
def andG : T → T → Option R
  | .int i, .int j => some (ri (Builtin.bitAnd i j))
  | _, _ => none
theorem s_and {K : PySem.W.Frag} : R2S K (rI0 fun i j => .int (Builtin.bitAnd i j)) andG := s_int0 fun a b r e => by
  unfold andG at e
  split at e
  · cases e; exact ⟨_, _, rfl, rfl, rfl⟩
  · cases e

/-! ### comparisons -/
def intsOf : List T → Option (List Int)
  | [] => some []
  | .int i :: r => (intsOf r).map (i :: ·)
  | _ :: _ => none
theorem intsOf_rp {K : PySem.W.Frag} {F : Hp} : ∀ {ds : List T} {ns : List Int} {vs : List V}, intsOf ds = some ns → RpA K F vs ds → vs = ns.map V.int
  | [], ns, vs, e, a => by
    cases e; cases a; rfl
  | .int i :: r, ns, vs, e, a => by
    cases a with
    | cons h t =>
      cases h
      unfold intsOf at e
      cases q : intsOf r with
      | none => rw [q] at e; cases e
      | some ms =>
        rw [q] at e
        cases e
        rw [intsOf_rp q t]
        rfl
  | .non :: r, _, _, e, _ => by cases e
  | .bl _ :: r, _, _, e, _ => by cases e
  | .str _ :: r, _, _, e, _ => by cases e
  | .tup _ :: r, _, _, e, _ => by cases e
  | .lst _ :: r, _, _, e, _ => by cases e
  | .frl _ :: r, _, _, e, _ => by cases e
  | .dic _ :: r, _, _, e, _ => by cases e
  | .dit _ :: r, _, _, e, _ => by cases e
def ltG : T → T → Option R
  | .int i, .int j => some (rb (decide (i < j)))
  | .tup xs, .tup ys => match intsOf xs, intsOf ys with
    | some ns, some ms => some (rb (HT.lexLt ns ms))
    | _, _ => none
  | _, _ => none
def rLtG (K : PySem.W.Frag) : R2 := fun x y H Q => rI0 (fun i j => .bl (decide (i < j))) x y H Q ∨ rLtT K x y H Q
theorem op_ltG {X : Cx} (hu : X.A.units < cLine) : OpR X (compareOp .Lt) (rLtG X.K) := OpR.or op_lt (op_ltT hu)
theorem s_lt {K : PySem.W.Frag} : R2S K (rLtG K) ltG := by
  intro x y a b res F H Q e s lx ly c
  unfold ltG at e
  split at e
  · cases e
    rw [lx.int, ly.int]
    exact .inl ⟨_, _, rfl, rfl, here s (.bl _) c⟩
  · split at e
    · rename_i ns ms h1 h2
      cases e
      obtain ⟨p, vs, rfl, hp, ap⟩ := lx.tup s
      obtain ⟨q, ws, rfl, hq, aq⟩ := ly.tup s
      rw [intsOf_rp h1 ap] at hp
      rw [intsOf_rp h2 aq] at hq
      exact .inr ⟨p, q, ns, ms, rfl, rfl, SqT.of hp, SqT.of hq, here s (.bl _) c⟩
    · cases e
  · cases e
def cmpI (p : Int → Int → Bool) : T → T → Option R
  | .int i, .int j => some (rb (p i j))
  | _, _ => none
theorem s_cmpI {K : PySem.W.Frag} {p : Int → Int → Bool} : R2S K (rI0 fun i j => .bl (p i j)) (cmpI p) := by
  intro x y a b res F H Q e s lx ly c
  unfold cmpI at e
  split at e
  · cases e
    rw [lx.int, ly.int]
    exact ⟨_, _, rfl, rfl, here s (.bl _) c⟩
  · cases e
def leG := cmpI fun i j => decide (i ≤ j)
def gtG := cmpI fun i j => decide (j < i)
def geG := cmpI fun i j => decide (j ≤ i)
theorem s_le {K : PySem.W.Frag} : R2S K (rI0 fun i j => .bl (decide (i ≤ j))) leG := s_cmpI
theorem s_gt {K : PySem.W.Frag} : R2S K (rI0 fun i j => .bl (decide (j < i))) gtG := s_cmpI
theorem s_ge {K : PySem.W.Frag} : R2S K (rI0 fun i j => .bl (decide (j ≤ i))) geG := s_cmpI
def eqG (a b : T) : Option R := if a.shp && b.shp then some (rb (a.eqv b)) else none
def neG (a b : T) : Option R := if a.shp && b.shp then some (rb (!a.eqv b)) else none
theorem shp_lay {d : T} (h : d.shp = true) : d.lay = true := by
  unfold T.shp at h
  exact (Bool.and_eq_true_iff.mp h).1
theorem s_eq {K : PySem.W.Frag} : R2S K (rEqD K) eqG := by
  intro x y a b res F H Q e s lx ly c
  unfold eqG at e
  split at e
  · rename_i h
    cases e
    rw [Bool.and_eq_true] at h
    refine ⟨_, _, lx.dp s (shp_lay h.1), ly.dp s (shp_lay h.2), shp_ok h.1, shp_ok h.2, ?_⟩
    rw [eqv_toD]
    exact here s (.bl _) c
  · cases e
theorem s_ne {K : PySem.W.Frag} : R2S K (rNeD K) neG := by
  intro x y a b res F H Q e s lx ly c
  unfold neG at e
  split at e
  · rename_i h
    cases e
    rw [Bool.and_eq_true] at h
    refine ⟨_, _, lx.dp s (shp_lay h.1), ly.dp s (shp_lay h.2), shp_ok h.1, shp_ok h.2, ?_⟩
    rw [eqv_toD]
    exact here s (.bl _) c
  · cases e
/-! ### is -/
def isT : T → T → Option Bool
  | .non, .non => some true
  | _, .non => some false
  | .bl a, .bl b => some (decide (a = b))
  | _, .bl _ => some false
  | _, _ => none
def isG (a b : T) : Option R := (isT a b).map rb
def isnG (a b : T) : Option R := (isT a b).map fun z => rb (!z)
def rIsS (neg : Bool) : R2 := fun x y H Q => (y = .non ∨ ∃ b, y = .bl b) ∧ Q (.bl (if neg then !decide (x = y) else decide (x = y))) H
theorem op_isS {X : Cx} : OpR X (compareOp .Is) (rIsS false) := by
  intro pins s σ H x y v u Q I rx ry h
  obtain ⟨h, q⟩ := h
  rcases h with rfl | ⟨b, rfl⟩
  · exact op_isN pins s σ H x _ v u Q I rx ry ⟨rfl, q⟩
  · obtain rfl : u = Value.bool b := ry
    have pl : plainIs v (.bool b) = true := by cases x <;> first | (cases rx; rfl) | (obtain ⟨t, rfl⟩ := rx; rfl)
    by_cases e : x = .bl b
    · subst e
      obtain rfl : v = Value.bool b := rx
      exact wpAny_is_self rfl ⟨.bl true, H, I, rfl, by simpa using q⟩
    · have ne : v ≠ Value.bool b := fun z => by
        subst z
        exact e (rx.inj (y := .bl b) rfl)
      exact wpAny_is_other pl ne ⟨.bl false, H, I, rfl, by simpa [e] using q⟩
theorem op_isnS {X : Cx} : OpR X (compareOp .IsNot) (rIsS true) := by
  intro pins s σ H x y v u Q I rx ry h
  obtain ⟨h, q⟩ := h
  rcases h with rfl | ⟨b, rfl⟩
  · exact op_notN pins s σ H x _ v u Q I rx ry ⟨rfl, q⟩
  · obtain rfl : u = Value.bool b := ry
    have pl : plainIs v (.bool b) = true := by cases x <;> first | (cases rx; rfl) | (obtain ⟨t, rfl⟩ := rx; rfl)
    by_cases e : x = .bl b
    · subst e
      obtain rfl : v = Value.bool b := rx
      exact wpAny_isNot_self rfl ⟨.bl false, H, I, rfl, by simpa using q⟩
    · have ne : v ≠ Value.bool b := fun z => by
        subst z
        exact e (rx.inj (y := .bl b) rfl)
      exact wpAny_isNot_other pl ne ⟨.bl true, H, I, rfl, by simpa [e] using q⟩
theorem Rp.scalar {K : PySem.W.Frag} {F H : Hp} {x y : V} {a b : T} {z : Bool} (lx : Lk K F H x a) (ly : Lk K F H y b) (e : isT a b = some z) : (y = .non ∨ ∃ c, y = .bl c) ∧ decide (x = y) = z := by
  have nl : ∀ {v : V} {d : T}, Lk K F H v d → (v = .non → d = .non) ∧ ∀ c, v = .bl c → d = .bl c := fun {v d} l => by
    refine ⟨fun q => ?_, fun c q => ?_⟩
    · subst q
      rcases l with l | ⟨p, q, _⟩
      · cases l; rfl
      · cases q
    · subst q
      rcases l with l | ⟨p, q, _⟩
      · cases l; rfl
      · cases q
  unfold isT at e
  split at e
  · cases e
    rw [lx.non, ly.non]
    exact ⟨.inl rfl, by decide⟩
  · rename_i hn
    cases e
    rw [ly.non]
    refine ⟨.inl rfl, decide_eq_false fun q => hn ((nl lx).1 q)⟩
  · cases e
    rw [lx.bl, ly.bl]
    refine ⟨.inr ⟨_, rfl⟩, ?_⟩
    rename_i p q
    by_cases h : p = q
    · subst h; simp
    · rw [decide_eq_false h]; exact decide_eq_false fun z => h (V.bl.inj z)
  · rename_i hn
    cases e
    rw [ly.bl]
    refine ⟨.inr ⟨_, rfl⟩, decide_eq_false fun q => hn _ ((nl lx).2 _ q)⟩
  · cases e
theorem s_is {K : PySem.W.Frag} : R2S K (rIsS false) isG := by
  intro x y a b res F H Q e s lx ly c
  unfold isG at e
  cases q : isT a b with
  | none => rw [q] at e; cases e
  | some z =>
    rw [q] at e
    cases e
    obtain ⟨h1, h2⟩ := Rp.scalar lx ly q
    refine ⟨h1, ?_⟩
    rw [h2]
    exact here s (.bl _) c
theorem s_isn {K : PySem.W.Frag} : R2S K (rIsS true) isnG := by
  intro x y a b res F H Q e s lx ly c
  unfold isnG at e
  cases q : isT a b with
  | none => rw [q] at e; cases e
  | some z =>
    rw [q] at e
    cases e
    obtain ⟨h1, h2⟩ := Rp.scalar lx ly q
    refine ⟨h1, ?_⟩
    rw [h2]
    exact here s (.bl _) c
end TR

namespace TR
open PySem L2

/-! ### keys of dicts -/
def keyOf : T → Option Key
  | .int i => some (.inl i)
  | .str x => some (.inr x)
  | _ => none
theorem keyOf_eq {d : T} {k : Key} (h : keyOf d = some k) : d = keyT k := by
  cases d <;> simp only [keyOf, Option.some.injEq, reduceCtorEq] at h <;> subst h <;> rfl
def keysOfA : List T → Option (List Key)
  | [] => some []
  | d :: r => match keyOf d, keysOfA r with
    | some k, some ks => some (k :: ks)
    | _, _ => none
def keysOf : T → Option (List Key)
  | .tup ds => keysOfA ds
  | _ => none
theorem keysOfA_eq : ∀ {ds : List T} {ks : List Key}, keysOfA ds = some ks → ds = ks.map keyT
  | [], ks, h => by cases h; rfl
  | d :: r, ks, h => by
    unfold keysOfA at h
    split at h
    · rename_i k ks' h1 h2
      cases h
      rw [keyOf_eq h1, keysOfA_eq h2]
      rfl
    · cases h
theorem keysOf_eq {d : T} {ks : List Key} (h : keysOf d = some ks) : d = keysT ks := by
  cases d with
  | tup ds => exact congrArg T.tup (keysOfA_eq h)
  | _ => cases h
theorem eqv_keyT : ∀ a b : Key, (keyT a).eqv (keyT b) = decide (a = b)
  | .inl i, .inl j => by
    show (i == j) = _
    by_cases h : i = j
    · subst h; simp
    · have : ¬ (Sum.inl i : Key) = .inl j := fun e => h (Sum.inl.inj e)
      rw [decide_eq_false this]; exact beq_eq_false_iff_ne.mpr h
  | .inl i, .inr j => rfl
  | .inr i, .inl j => rfl
  | .inr i, .inr j => by
    show (i == j) = _
    by_cases h : i = j
    · subst h; simp
    · have : ¬ (Sum.inr i : Key) = .inr j := fun e => h (Sum.inr.inj e)
      rw [decide_eq_false this]; exact beq_eq_false_iff_ne.mpr h
theorem eqv_keysA : ∀ a b : List Key, eqvA (a.map keyT) (b.map keyT) = decide (a = b)
  | [], [] => rfl
  | [], _ :: _ => rfl
  | _ :: _, [] => rfl
  | x :: xs, y :: ys => by
    show ((keyT x).eqv (keyT y) && eqvA (xs.map keyT) (ys.map keyT)) = _
    rw [eqv_keyT, eqv_keysA]
    by_cases h : x = y <;> by_cases h2 : xs = ys <;> simp [h, h2]
theorem eqv_keysT (a b : List Key) : (keysT a).eqv (keysT b) = decide (a = b) := eqv_keysA a b
def lookT (kvs : List (T × T)) (k : T) : Option T := (kvs.find? fun kv => kv.1.eqv k).map (·.2)
def putT (kvs : List (T × T)) (k v : T) : List (T × T) :=
  if (kvs.any fun kv => kv.1.eqv k) = true then kvs.map (fun kv => if kv.1.eqv k = true then (kv.1, v) else kv) else kvs ++ [(k, v)]
section
variable {K : PySem.W.Frag} {F : Hp}
theorem RpK.look {k : Key} : ∀ {kvs : List (Key × V)} {ds : List (T × T)}, RpK K F kvs ds →
    (∀ d, lookT ds (keyT k) = some d → ∃ v, valV kvs k = some v ∧ Rp K F v d) ∧ (lookT ds (keyT k) = none → valV kvs k = none)
  | _, _, .nil => ⟨fun d e => by simp [lookT] at e, fun _ => rfl⟩
  | _, _, .cons (k := k') (v := v) (vs := vs) (d := d) (ds := ds) a b => by
    have ih := RpK.look (k := k) b
    by_cases h : k' = k
    · subst h
      have e0 : (keyT k').eqv (keyT k') = true := by rw [eqv_keyT]; simp
      refine ⟨fun d' e => ?_, fun e => ?_⟩
      · simp only [lookT, List.find?_cons, e0, Option.map_some, Option.some.injEq] at e
        subst e
        exact ⟨v, valV_pos rfl, a⟩
      · simp only [lookT, List.find?_cons, e0, Option.map_some, reduceCtorEq] at e
    · have e0 : (keyT k').eqv (keyT k) = false := by rw [eqv_keyT]; simp [h]
      have e1 : lookT ((keyT k', d) :: ds) (keyT k) = lookT ds (keyT k) := by simp only [lookT, List.find?_cons, e0]
      rw [e1, valV_neg (p := (k', v)) h]
      exact ih
theorem RpT.look {k : List Key} : ∀ {kvs : List (List Key × V)} {ds : List (T × T)}, RpT K F kvs ds →
    (∀ d, lookT ds (keysT k) = some d → ∃ v, valV kvs k = some v ∧ Rp K F v d) ∧ (lookT ds (keysT k) = none → valV kvs k = none)
  | _, _, .nil => ⟨fun d e => by simp [lookT] at e, fun _ => rfl⟩
  | _, _, .cons (k := k') (v := v) (vs := vs) (d := d) (ds := ds) a b => by
    have ih := RpT.look (k := k) b
    by_cases h : k' = k
    · subst h
      have e0 : (keysT k').eqv (keysT k') = true := by rw [eqv_keysT]; simp
      refine ⟨fun d' e => ?_, fun e => ?_⟩
      · simp only [lookT, List.find?_cons, e0, Option.map_some, Option.some.injEq] at e
        subst e
        exact ⟨v, valV_pos rfl, a⟩
      · simp only [lookT, List.find?_cons, e0, Option.map_some, reduceCtorEq] at e
    · have e0 : (keysT k').eqv (keysT k) = false := by rw [eqv_keysT]; simp [h]
      have e1 : lookT ((keysT k', d) :: ds) (keysT k) = lookT ds (keysT k) := by simp only [lookT, List.find?_cons, e0]
      rw [e1, valV_neg (p := (k', v)) h]
      exact ih
theorem RpK.any {k : Key} : ∀ {kvs : List (Key × V)} {ds : List (T × T)}, RpK K F kvs ds → (ds.any fun kv => kv.1.eqv (keyT k)) = kvs.any fun kv => decide (kv.1 = k)
  | _, _, .nil => rfl
  | _, _, .cons (k := k') a b => by
    rw [List.any_cons, List.any_cons, RpK.any b, eqv_keyT]
theorem RpT.any {k : List Key} : ∀ {kvs : List (List Key × V)} {ds : List (T × T)}, RpT K F kvs ds → (ds.any fun kv => kv.1.eqv (keysT k)) = kvs.any fun kv => decide (kv.1 = k)
  | _, _, .nil => rfl
  | _, _, .cons (k := k') a b => by
    rw [List.any_cons, List.any_cons, RpT.any b, eqv_keysT]
theorem RpK.map {k : Key} {v : V} {d : T} (r : Rp K F v d) : ∀ {kvs : List (Key × V)} {ds : List (T × T)}, RpK K F kvs ds →
    RpK K F (kvs.map fun kv => if kv.1 = k then (kv.1, v) else kv) (ds.map fun kv => if kv.1.eqv (keyT k) = true then (kv.1, d) else kv)
  | _, _, .nil => .nil
  | _, _, .cons (k := k') (v := v') (d := d') a b => by
    rw [List.map_cons, List.map_cons]
    by_cases h : k' = k
    · have e0 : (keyT k').eqv (keyT k) = true := by rw [eqv_keyT]; simp [h]
      rw [if_pos h, if_pos e0]
      exact .cons r (RpK.map r b)
    · have e0 : ¬ (keyT k').eqv (keyT k) = true := by rw [eqv_keyT]; simp [h]
      rw [if_neg h, if_neg e0]
      exact .cons a (RpK.map r b)
theorem RpT.map {k : List Key} {v : V} {d : T} (r : Rp K F v d) : ∀ {kvs : List (List Key × V)} {ds : List (T × T)}, RpT K F kvs ds →
    RpT K F (kvs.map fun kv => if kv.1 = k then (kv.1, v) else kv) (ds.map fun kv => if kv.1.eqv (keysT k) = true then (kv.1, d) else kv)
  | _, _, .nil => .nil
  | _, _, .cons (k := k') (v := v') (d := d') a b => by
    rw [List.map_cons, List.map_cons]
    by_cases h : k' = k
    · have e0 : (keysT k').eqv (keysT k) = true := by rw [eqv_keysT]; simp [h]
      rw [if_pos h, if_pos e0]
      exact .cons r (RpT.map r b)
    · have e0 : ¬ (keysT k').eqv (keysT k) = true := by rw [eqv_keysT]; simp [h]
      rw [if_neg h, if_neg e0]
      exact .cons a (RpT.map r b)
theorem RpK.append : ∀ {kvs lvs : List (Key × V)} {ds es : List (T × T)}, RpK K F kvs ds → RpK K F lvs es → RpK K F (kvs ++ lvs) (ds ++ es)
  | _, _, _, _, .nil, h => h
  | _, _, _, _, .cons a b, h => .cons a (RpK.append b h)
theorem RpT.append : ∀ {kvs lvs : List (List Key × V)} {ds es : List (T × T)}, RpT K F kvs ds → RpT K F lvs es → RpT K F (kvs ++ lvs) (ds ++ es)
  | _, _, _, _, .nil, h => h
  | _, _, _, _, .cons a b, h => .cons a (RpT.append b h)
theorem RpK.put {k : Key} {v : V} {d : T} (r : Rp K F v d) {kvs : List (Key × V)} {ds : List (T × T)} (a : RpK K F kvs ds) : RpK K F (putK kvs k v) (putT ds (keyT k) d) := by
  unfold putK putT
  rw [a.any]
  split
  · exact a.map r
  · exact a.append (.cons r .nil)
theorem RpT.put {k : List Key} {v : V} {d : T} (r : Rp K F v d) {kvs : List (List Key × V)} {ds : List (T × T)} (a : RpT K F kvs ds) : RpT K F (putK kvs k v) (putT ds (keysT k) d) := by
  unfold putK putT
  rw [a.any]
  split
  · exact a.map r
  · exact a.append (.cons r .nil)
theorem RpK.length : ∀ {kvs : List (Key × V)} {ds : List (T × T)}, RpK K F kvs ds → kvs.length = ds.length
  | _, _, .nil => rfl
  | _, _, .cons _ b => congrArg Nat.succ b.length
theorem RpT.length : ∀ {kvs : List (List Key × V)} {ds : List (T × T)}, RpT K F kvs ds → kvs.length = ds.length
  | _, _, .nil => rfl
  | _, _, .cons _ b => congrArg Nat.succ b.length
theorem RpA.keys : ∀ {ks : List Key} {vs : List V}, RpA K F vs (ks.map keyT) → vs = ks.map kV
  | [], _, a => by cases a; rfl
  | k :: r, _, a => by
    cases a with
    | cons h t =>
      rw [RpA.keys t]
      cases k with
      | inl i => cases h; rfl
      | inr x => cases h; rfl
end
/-- a dict asked for a key -/
theorem dget_k {K : PySem.W.Frag} {F H : Hp} {x y : V} {k : T} {ds : List (T × T)} {q : Key} (s : Same F H) (lx : Lk K F H x (.dic ds)) (ly : Lk K F H y k) (hk : keyOf k = some q) :
    ∃ a o, x = .ref a ∧ DGet H a y o ∧ (∀ d, lookT ds k = some d → ∃ v, o = some v ∧ Rp K F v d) ∧ (lookT ds k = none → o = none) := by
  have ek := keyOf_eq hk
  subst ek
  obtain ⟨a, kvs, e1, e2, r⟩ := lx.dic s
  have ey : y = kV q := by
    cases q with
    | inl i => exact ly.int
    | inr x => exact ly.str
  exact ⟨a, valV kvs q, e1, .inl ⟨kvs, q, e2, ey, rfl⟩, fun d e => r.look.1 d e, fun e => r.look.2 e⟩
theorem dget_t {K : PySem.W.Frag} {F H : Hp} {x y : V} {k : T} {ds : List (T × T)} {q : List Key} (s : Same F H) (lx : Lk K F H x (.dit ds)) (ly : Lk K F H y k) (hk : keysOf k = some q) :
    ∃ a o, x = .ref a ∧ DGet H a y o ∧ (∀ d, lookT ds k = some d → ∃ v, o = some v ∧ Rp K F v d) ∧ (lookT ds k = none → o = none) := by
  have ek := keysOf_eq hk
  subst ek
  obtain ⟨a, kvs, e1, e2, r⟩ := lx.dit s
  obtain ⟨b, vs, h1, h2, ra⟩ := ly.tup s
  rw [ra.keys] at h2
  exact ⟨a, valV kvs q, e1, .inr ⟨kvs, q, b, .inl e2, h1, h2, rfl⟩, fun d e => r.look.1 d e, fun e => r.look.2 e⟩
/-- what a dict says of a key; none: the key doesn't fit -/
def askT (x k : T) : Option (Option T) := match x with
  | .dic ds => if (keyOf k).isSome then some (lookT ds k) else none
  | .dit ds => if (keysOf k).isSome then some (lookT ds k) else none
  | _ => none
theorem dget_of {K : PySem.W.Frag} {F H : Hp} {x y : V} {a k : T} {o : Option T} (s : Same F H) (lx : Lk K F H x a) (ly : Lk K F H y k) (h : askT a k = some o) :
    ∃ p w, x = .ref p ∧ DGet H p y w ∧ (∀ d, o = some d → ∃ v, w = some v ∧ Rp K F v d) ∧ (o = none → w = none) := by
  unfold askT at h
  split at h
  · split at h
    · rename_i hs
      cases h
      obtain ⟨q, hq⟩ := Option.isSome_iff_exists.mp hs
      exact dget_k s lx ly hq
    · cases h
  · split at h
    · rename_i hs
      cases h
      obtain ⟨q, hq⟩ := Option.isSome_iff_exists.mp hs
      exact dget_t s lx ly hq
    · cases h
  · cases h
end TR

namespace TR
open PySem L2

/-! ### in -/
def T.flat : T → Bool
  | .non => true
  | .bl _ => true
  | .int _ => true
  | .str _ => true
  | _ => false
def vOf : T → V
  | .non => .non
  | .bl b => .bl b
  | .int i => .int i
  | .str x => .str x
  | _ => .non
section
variable {K : PySem.W.Frag} {F H : Hp}
theorem Lk.flat {v : V} {d : T} (l : Lk K F H v d) (h : d.flat = true) : v = vOf d ∧ flatV v = true := by
  cases d with
  | non => have e := l.non; subst e; exact ⟨rfl, rfl⟩
  | bl b => have e := l.bl; subst e; exact ⟨rfl, rfl⟩
  | int b => have e := l.int; subst e; exact ⟨rfl, rfl⟩
  | str b => have e := l.str; subst e; exact ⟨rfl, rfl⟩
  | _ => cases h
theorem RpA.flat : ∀ {vs : List V} {ds : List T}, RpA K F vs ds → ds.all T.flat = true → vs = ds.map vOf ∧ vs.all flatV = true
  | _, _, .nil, _ => ⟨rfl, rfl⟩
  | _, _, .cons (v := v) (d := d) a b, h => by
    rw [List.all_cons, Bool.and_eq_true] at h
    obtain ⟨e1, e2⟩ := Lk.flat (H := F) (.inl a) h.1
    obtain ⟨e3, e4⟩ := RpA.flat b h.2
    subst e1
    rw [e3] at e4 ⊢
    exact ⟨rfl, by rw [List.all_cons, e2, e4]; rfl⟩
theorem eqV_flat {a b : T} (ha : a.flat = true) (hb : b.flat = true) : eqV (vOf a) (vOf b) = a.eqv b := by
  cases a <;> cases b <;> first | rfl | (cases ha; done) | (cases hb; done)
theorem inV_flat {a : T} (ha : a.flat = true) : ∀ {ds : List T}, ds.all T.flat = true → inV (vOf a) (ds.map vOf) = ds.any fun z => z.eqv a
  | [], _ => rfl
  | d :: r, h => by
    rw [List.all_cons, Bool.and_eq_true] at h
    have ih := inV_flat ha h.2
    unfold inV at ih ⊢
    rw [List.map_cons, List.any_cons, List.any_cons, ih, eqV_flat h.1 ha]
end
theorem toDA_any {a : T} : ∀ ds : List T, ((toDA ds).any fun z => PyData.eqv z a.toD) = ds.any fun z => z.eqv a
  | [] => rfl
  | d :: r => by
    show (PyData.eqv d.toD a.toD || (toDA r).any _) = _
    rw [toDA_any r, eqv_toD]
    rfl
def inT (a b : T) : Option Bool := match b with
  | .lst ds => if a.shp && b.shp then some (ds.any fun z => z.eqv a) else none
  | .tup ds => if a.flat && ds.all T.flat then some (ds.any fun z => z.eqv a) else none
  | .dic _ => (askT b a).map Option.isSome
  | .dit _ => (askT b a).map Option.isSome
  | _ => none
def inG (a b : T) : Option R := (inT a b).map rb
def ninG (a b : T) : Option R := (inT a b).map fun z => rb (!z)
def rDIn (neg : Bool) : R2 := fun y x H Q => ∃ a o, x = .ref a ∧ DGet H a y o ∧ Q (.bl (if neg then !o.isSome else o.isSome)) H
def rInG (K : PySem.W.Frag) : R2 := fun x y H Q => rInD K x y H Q ∨ rIn K false x y H Q ∨ rDIn false x y H Q
def rNinG (K : PySem.W.Frag) : R2 := fun x y H Q => rNotInD K x y H Q ∨ rIn K true x y H Q ∨ rDIn true x y H Q
theorem op_dIn {X : Cx} (hu : X.A.units + 1 < cLine) : OpR X (compareOp .In) (rDIn false) := by
  intro pins s σ H x y v u Q I rx ry h
  obtain ⟨a, o, rfl, g, q⟩ := h
  obtain rfl : u = Value.ref a := ry
  exact d_in hu I g rx fun s' I' => ⟨.bl o.isSome, H, I', rfl, q⟩
theorem op_dNin {X : Cx} (hu : X.A.units + 1 < cLine) : OpR X (compareOp .NotIn) (rDIn true) := by
  intro pins s σ H x y v u Q I rx ry h
  obtain ⟨a, o, rfl, g, q⟩ := h
  obtain rfl : u = Value.ref a := ry
  exact d_notIn hu I g rx fun s' I' => ⟨.bl (!o.isSome), H, I', rfl, q⟩
theorem op_inG {X : Cx} (hu : X.A.units + 65 < cLine) : OpR X (compareOp .In) (rInG X.K) := OpR.or (op_inD hu) (OpR.or op_in_seq (op_dIn (by omega)))
theorem op_ninG {X : Cx} (hu : X.A.units + 65 < cLine) : OpR X (compareOp .NotIn) (rNinG X.K) := OpR.or (op_notInD hu) (OpR.or op_notIn_seq (op_dNin (by omega)))
theorem s_inDict {K : PySem.W.Frag} {x y : V} {a b : T} {z : Bool} {F H : Hp} {A B : Prop} (e : (askT b a).map Option.isSome = some z) (s : Same F H) (lx : Lk K F H x a) (ly : Lk K F H y b) :
    A ∨ B ∨ (∃ a o, y = .ref a ∧ DGet H a x o ∧ o.isSome = z) := by
  obtain ⟨o, q, rfl⟩ := Option.map_eq_some_iff.mp e
  obtain ⟨p, w, h1, h2, h3, h4⟩ := dget_of s ly lx q
  refine .inr (.inr ⟨p, w, h1, h2, ?_⟩)
  cases o with
  | none => rw [h4 rfl]; rfl
  | some d =>
    obtain ⟨v, e, _⟩ := h3 d rfl
    rw [e]
    rfl
theorem s_inB {K : PySem.W.Frag} {x y : V} {a b : T} {z : Bool} {F H : Hp} (e : inT a b = some z) (s : Same F H) (lx : Lk K F H x a) (ly : Lk K F H y b) :
    (∃ d ds, Dp K H x d ∧ Dp K H y (.list ds) ∧ SeqAt.shaped d = true ∧ SeqAt.shaped (.list ds) = true ∧ (ds.any fun z => PyData.eqv z d) = z) ∨
    (∃ p xs, y = .ref p ∧ (SqL K H p xs ∨ SqT K H p xs) ∧ flatV x = true ∧ xs.all flatV = true ∧ inV x xs = z) ∨ (∃ a o, y = .ref a ∧ DGet H a x o ∧ o.isSome = z) := by
  unfold inT at e
  split at e
  · split at e
    · rename_i ds h
      cases e
      rw [Bool.and_eq_true] at h
      exact .inl ⟨a.toD, toDA ds, lx.dp s (shp_lay h.1), ly.dp s (shp_lay h.2), shp_ok h.1, shp_ok h.2, toDA_any ds⟩
    · cases e
  · split at e
    · rename_i ds h
      cases e
      rw [Bool.and_eq_true] at h
      obtain ⟨p, vs, rfl, hp, ap⟩ := ly.tup s
      obtain ⟨e1, e2⟩ := lx.flat h.1
      obtain ⟨e3, e4⟩ := ap.flat h.2
      refine .inr (.inl ⟨p, vs, rfl, .inr (SqT.of hp), e2, e4, ?_⟩)
      rw [e1, e3]
      exact inV_flat h.1 h.2
    · cases e
  · exact s_inDict e s lx ly
  · exact s_inDict e s lx ly
  · cases e
theorem s_in {K : PySem.W.Frag} : R2S K (rInG K) inG := by
  intro x y a b res F H Q e s lx ly c
  unfold inG at e
  cases q : inT a b with
  | none => rw [q] at e; cases e
  | some z =>
    rw [q] at e
    cases e
    rcases s_inB q s lx ly with ⟨d, ds, h1, h2, h3, h4, h5⟩ | ⟨p, xs, h1, h2, h3, h4, h5⟩ | ⟨p, o, h1, h2, h3⟩
    · exact .inl ⟨d, ds, h1, h2, h3, h4, by rw [h5]; exact here s (.bl _) c⟩
    · exact .inr (.inl ⟨p, xs, h1, h2, h3, h4, by rw [if_neg Bool.false_ne_true, h5]; exact here s (.bl _) c⟩)
    · exact .inr (.inr ⟨p, o, h1, h2, by rw [if_neg Bool.false_ne_true, h3]; exact here s (.bl _) c⟩)
theorem s_nin {K : PySem.W.Frag} : R2S K (rNinG K) ninG := by
  intro x y a b res F H Q e s lx ly c
  unfold ninG at e
  cases q : inT a b with
  | none => rw [q] at e; cases e
  | some z =>
    rw [q] at e
    cases e
    rcases s_inB q s lx ly with ⟨d, ds, h1, h2, h3, h4, h5⟩ | ⟨p, xs, h1, h2, h3, h4, h5⟩ | ⟨p, o, h1, h2, h3⟩
    · exact .inl ⟨d, ds, h1, h2, h3, h4, by rw [h5]; exact here s (.bl _) c⟩
    · exact .inr (.inl ⟨p, xs, h1, h2, h3, h4, by rw [if_pos rfl, h5]; exact here s (.bl _) c⟩)
    · exact .inr (.inr ⟨p, o, h1, h2, by rw [if_pos rfl, h3]; exact here s (.bl _) c⟩)

/-! ### items -/
def ixT (a b : T) : Option T := match a, b with
  | .lst ds, .int i => atI ds i
  | .frl ds, .int i => atI ds i
  | .tup ds, .int i => atI ds i
  | .str x, .int i => if x.length ≤ sizeLine then (atI x.cps.toList i).map fun c => .str ⟨#[c]⟩ else none
  | .dic _, k => (askT a k).bind id
  | .dit _, k => (askT a k).bind id
  | _, _ => none
def ixG (a b : T) : Option R := (ixT a b).map fun d => ⟨d, false⟩
def rIxD : R2 := fun x y H Q => ∃ a v, x = .ref a ∧ DGet H a y (some v) ∧ Q v H
theorem IxR.or {X : Cx} {r r' : R2} (h : IxR X r) (h' : IxR X r') : IxR X (fun x y H Q => r x y H Q ∨ r' x y H Q) := by
  intro value slice pins s σ H x y v u Q I rx ry q hs
  rcases q with q | q
  · exact h value slice pins s σ H x y v u Q I rx ry q hs
  · exact h' value slice pins s σ H x y v u Q I rx ry q hs
theorem ix_dict {X : Cx} (hu : X.A.units + 1 < cLine) : IxR X rIxD := by
  intro value slice pins s σ H x y v u Q I rx ry h hs
  obtain ⟨a, w, rfl, g, q⟩ := h
  obtain rfl : v = Value.ref a := rx
  exact PyProof.Rows.tail_any (dict_typeIs I g) PySem.F.slot_dict_getitem.lookup (d_getItem hu I g ry fun w' s' I' r => ⟨w, H, I', r, q⟩) hs
def rIxG (K : PySem.W.Frag) : R2 := fun x y H Q => rIxL K x y H Q ∨ rIxT K x y H Q ∨ rIxS x y H Q ∨ rIxD x y H Q
theorem ix_G {X : Cx} (hu : X.A.units + 1 < cLine) : IxR X (rIxG X.K) := IxR.or ix_list (IxR.or ix_tup (IxR.or ix_str (ix_dict hu)))
theorem RpA.atI {K : PySem.W.Frag} {F : Hp} {vs : List V} {ds : List T} {i : Int} {d : T} (a : RpA K F vs ds) (h : L2.atI ds i = some d) : ∃ v, L2.atI vs i = some v ∧ Rp K F v d := by
  unfold L2.atI at h ⊢
  rw [a.length]
  cases e : ixN ds.length i with
  | none => rw [e] at h; cases h
  | some j =>
    rw [e] at h
    exact a.get h
theorem s_ix {K : PySem.W.Frag} : R2S K (rIxG K) ixG := by
  intro x y a b res F H Q e s lx ly c
  unfold ixG at e
  cases q : ixT a b with
  | none => rw [q] at e; cases e
  | some z =>
    rw [q] at e
    cases e
    unfold ixT at q
    split at q
    · rename_i ds i
      obtain ⟨p, vs, rfl, hp, ap⟩ := lx.lst s
      rw [ly.int]
      obtain ⟨v, h1, h2⟩ := ap.atI q
      exact .inl ⟨p, vs, i, v, rfl, rfl, SqL.of hp, h1, here s h2 c⟩
    · rename_i ds i
      obtain ⟨p, vs, rfl, hp, ap⟩ := lx.frl s
      rw [ly.int]
      obtain ⟨v, h1, h2⟩ := ap.atI q
      exact .inl ⟨p, vs, i, v, rfl, rfl, hp, h1, here s h2 c⟩
    · rename_i ds i
      obtain ⟨p, vs, rfl, hp, ap⟩ := lx.tup s
      rw [ly.int]
      obtain ⟨v, h1, h2⟩ := ap.atI q
      exact .inr (.inl ⟨p, vs, i, v, rfl, rfl, SqT.of hp, h1, here s h2 c⟩)
    · rename_i x' i
      split at q
      · rename_i hz
        rw [lx.str, ly.int]
        cases e1 : L2.atI x'.cps.toList i with
        | none => rw [e1] at q; cases q
        | some ch =>
          rw [e1] at q
          cases q
          exact .inr (.inr (.inl ⟨x', i, ch, rfl, rfl, hz, e1, here s (.str _) c⟩))
      · cases q
    all_goals first
      | (cases e1 : askT _ b with
         | none => rw [e1] at q; cases q
         | some o =>
           rw [e1] at q
           have q' : o = some z := q
           subst q'
           obtain ⟨p, w, h1, h2, h3, _⟩ := dget_of s lx ly e1
           obtain ⟨v, e, r⟩ := h3 z rfl
           rw [e] at h2
           exact .inr (.inr (.inr ⟨p, v, h1, h2, here s r c⟩)))
      | cases q
/-! ### slices -/
def cutT (ds : List T) (lo hi : Option Int) : List T := (ds.drop (HT.sIx ds.length 0 lo)).take (HT.sIx ds.length ds.length hi - HT.sIx ds.length 0 lo)
def slG (a : T) (lo hi : Option Int) : Option R := match a with
  | .lst ds => some ⟨.lst (cutT ds lo hi), true⟩
  | .frl ds => some ⟨.lst (cutT ds lo hi), true⟩
  | .tup ds => some ⟨.tup (cutT ds lo hi), false⟩
  | _ => none
def rSlG (K : PySem.W.Frag) : V → Option Int → Option Int → Hp → VK → Prop := fun x lo hi H Q => rSlL K x lo hi H Q ∨ rSlA K x lo hi H Q
theorem sl_G {X : Cx} : SlR X (rSlG X.K) := SlR.or sl_list sl_tupA
theorem RpA.cut {K : PySem.W.Frag} {F : Hp} {vs : List V} {ds : List T} (a : RpA K F vs ds) (lo hi : Option Int) : RpA K F (cutV vs lo hi) (cutT ds lo hi) := by
  unfold cutV cutT
  rw [a.length]
  exact (a.drop _).take _
theorem cut_whole {ds : List T} {lo hi : Option Int} (h : HT.sIx ds.length 0 lo = 0 ∧ HT.sIx ds.length ds.length hi = ds.length) : cutT ds lo hi = ds := by
  unfold cutT
  rw [h.1, h.2]
  simp
def R3S (K : PySem.W.Frag) (r : V → Option Int → Option Int → Hp → VK → Prop) (g : T → Option Int → Option Int → Option R) : Prop := ∀ (x : V) (a : T) (lo hi : Option Int) (res : R) (F H : Hp) (Q : VK), g a lo hi = some res → Same F H → Lk K F H x a →
  (∀ v H' F', Grow H F H' F' → RO K F' H' H v res → Q v H') → r x lo hi H Q
theorem s_sl {K : PySem.W.Frag} : R3S K (rSlG K) slG := by
  intro x a lo hi res F H Q e s lx c
  unfold slG at e
  split at e
  · cases e
    obtain ⟨p, vs, rfl, hp, ap⟩ := lx.lst s
    exact .inl ⟨p, vs, rfl, SqL.of hp, fun l hl => new_lst s hl (ap.cut lo hi) c⟩
  · cases e
    obtain ⟨p, vs, rfl, hp, ap⟩ := lx.frl s
    exact .inl ⟨p, vs, rfl, hp, fun l hl => new_lst s hl (ap.cut lo hi) c⟩
  · cases e
    obtain ⟨p, vs, rfl, hp, ap⟩ := lx.tup s
    refine .inr ⟨p, vs, rfl, SqT.of hp, fun h => ?_, fun _ l hl => new_tup s hl (ap.cut lo hi) c⟩
    rw [ap.length] at h
    rw [cut_whole h] at c
    rcases lx with r | ⟨_, _, o⟩
    · exact here s r c
    · exact o.elim
  · cases e
/-! ### truth -/
def truT : T → Option Bool
  | .non => some false
  | .bl b => some b
  | .int i => some (i != 0)
  | .str y => if y.length ≤ sizeLine then some ((y.length : Int) != 0) else none
  | .lst ds => some (!ds.isEmpty)
  | .frl ds => some (!ds.isEmpty)
  | .tup ds => some (!ds.isEmpty)
  | _ => none
theorem RpA.isEmpty {K : PySem.W.Frag} {F : Hp} {vs : List V} {ds : List T} (a : RpA K F vs ds) : vs.isEmpty = ds.isEmpty := by cases a <;> rfl
theorem s_tru {K : PySem.W.Frag} {x : V} {a : T} {z : Bool} {F H : Hp} (e : truT a = some z) (s : Same F H) (lx : Lk K F H x a) : TruV K x H z := by
  unfold truT at e
  split at e
  · cases e; rw [lx.non]; rfl
  · cases e; rw [lx.bl]; rfl
  · cases e; rw [lx.int]; rfl
  · split at e
    · cases e; rw [lx.str]; exact ⟨by assumption, rfl⟩
    · cases e
  · cases e
    obtain ⟨p, vs, rfl, hp, ap⟩ := lx.lst s
    exact .inl ⟨vs, SqL.of hp, by rw [ap.isEmpty]⟩
  · cases e
    obtain ⟨p, vs, rfl, hp, ap⟩ := lx.frl s
    exact .inl ⟨vs, hp, by rw [ap.isEmpty]⟩
  · cases e
    obtain ⟨p, vs, rfl, hp, ap⟩ := lx.tup s
    exact .inr (.inl ⟨vs, SqT.of hp, by rw [ap.isEmpty]⟩)
  · cases e
end TR

namespace TR
open PySem L2

structure EE (X : Cx) (e : Expr) (te : TE) (f : M R) : Prop where
  pe : PE X e te
  s : SE X.K te f
structure EV (X : Cx) (e : Expr) (te : TE) (f : M T) : Prop where
  pe : PE X e te
  s : SV X.K te f
structure EO (X : Cx) (e : Expr) (te : TE) (f : M (Sls → Option T)) : Prop where
  pe : PE X e te
  s : SO X.K te f
structure EB (X : Cx) (e : Expr) (tt : TT) (f : M Bool) : Prop where
  pe : PT X e tt
  s : SB X.K tt f
/-- an and, or within a test -/
structure EW (X : Cx) (e : Expr) (tt : TT) (f : M Bool) : Prop where
  pe : PW X e tt
  s : SB X.K tt f
section
variable {X : Cx} {e a b c : Expr} {te ta tb tc : TE} {pos : Pos}
theorem EE.v {f : M R} (h : EE X e te f) : EV X e te (fz f) := ⟨h.pe, h.s.fz⟩
theorem EV.o {f : M T} (h : EV X e te f) : EO X e te (ov f) := ⟨h.pe, h.s.ov⟩
theorem EV.ee {f : M T} (h : EV X e te f) : EE X e te (rv f) := ⟨h.pe, h.s.rv⟩
theorem EE.oo {f : M R} (h : EE X e te f) : EO X e te (ov (fz f)) := h.v.o
theorem EW.bb {tt : TT} {f : M Bool} (h : EW X e tt f) : EB X e tt f := ⟨h.pe.pt, h.s⟩

/-! ### names, constants -/
theorem v_var (i : Nat) {x : Str} (hN : X.N[i]? = some x := by rfl) (hv : Vis X.env.scope x := by first | exact Or.inl rfl | exact Or.inr (Or.inl rfl) | exact Or.inr (Or.inr rfl)) (hd : (x == ("__debug__" : Str)) = false := by decide)
    (hcd : (x == ("__classdict__" : Str)) = false := by decide) : EV X (.Name x pos) (tVar i) (vrd i) := ⟨pe_var hN hv hd hcd, sv_var⟩
theorem o_var (i : Nat) {x : Str} (hN : X.N[i]? = some x := by rfl) (hv : Vis X.env.scope x := by first | exact Or.inl rfl | exact Or.inr (Or.inl rfl) | exact Or.inr (Or.inr rfl)) (hd : (x == ("__debug__" : Str)) = false := by decide)
    (hcd : (x == ("__classdict__" : Str)) = false := by decide) : EO X (.Name x pos) (tVar i) (prdOk i) := ⟨pe_var hN hv hd hcd, so_var⟩
theorem v_int {i j} : EV X (.Constant (.int i) j pos) (tC (.int i)) (cst (.int i)) := ⟨pe_int, sv_c fun _ => .int i⟩
theorem v_bl {i j} : EV X (.Constant (.bool i) j pos) (tC (.bl i)) (cst (.bl i)) := ⟨pe_bl, sv_c fun _ => .bl i⟩
theorem v_non {j} : EV X (.Constant .none j pos) (tC .non) (cst .non) := ⟨pe_non, sv_c fun _ => .non⟩
theorem v_str {i j} : EV X (.Constant (.str i) j pos) (tC (.str i)) (cst (.str i)) := ⟨pe_str, sv_c fun _ => .str i⟩

/-! ### operators -/
def opE (g : T → T → Option R) (fa fb : M (Sls → Option T)) : M R := fun τ =>
  (fa τ).bind fun p => (fb p.2).bind fun q => (p.1 q.2).bind fun x => (q.1 q.2).bind fun y => (g x y).map fun r => (r, q.2)
theorem s_op {K : PySem.W.Frag} {r : R2} {g : T → T → Option R} {fa fb : M (Sls → Option T)} (hr : R2S K r g) (ha : SO K ta fa) (hb : SO K tb fb) : SE K (tOp r ta tb) (opE g fa fb) := by
  intro τ τ' res σ H F Q e k c
  unfold opE at e
  obtain ⟨p, h1, e⟩ := Option.bind_eq_some_iff.mp e
  obtain ⟨q, h2, e⟩ := Option.bind_eq_some_iff.mp e
  obtain ⟨x, h3, e⟩ := Option.bind_eq_some_iff.mp e
  obtain ⟨y, h4, e⟩ := Option.bind_eq_some_iff.mp e
  obtain ⟨z, h5, e⟩ := Option.map_eq_some_iff.mp e
  cases e
  refine ha τ p.2 p.1 σ H F _ h1 k fun v H1 F1 k1 s1 l1 => hb p.2 q.2 q.1 σ H1 F1 _ h2 k1 fun u H2 F2 k2 s2 l2 => ?_
  refine hr v u x y _ F2 H2 Q h5 k2.sub (l1 _ _ _ _ k2 s2 h3) (l2 _ _ _ _ k2 .refl h4) fun w H' F' g ro => ?_
  exact c w H' F' (k2.grow g) (s1.trans (s2.trans g.step)) ((ro.ok k2 g).back (s1.trans s2))
theorem e_op {op : Operator} {r : R2} {g : T → T → Option R} {fa fb : M (Sls → Option T)} (ho : OpR X (binaryOp op) r) (hr : R2S X.K r g) (ha : EO X a ta fa) (hb : EO X b tb fb) : EE X (.BinOp a op b pos) (tOp r ta tb) (opE g fa fb) :=
  ⟨pe_op ho ha.pe hb.pe, s_op hr ha.s hb.s⟩
theorem e_cmp {op : CmpOp} {r : R2} {g : T → T → Option R} {fa fb : M (Sls → Option T)} (ho : OpR X (compareOp op) r) (hr : R2S X.K r g) (ha : EO X a ta fa) (hb : EO X b tb fb) (hm : behindInMarks op b = false) :
    EE X (.Compare a [op] [b] pos) (tOp r ta tb) (opE g fa fb) := ⟨pe_cmpR ho ha.pe hb.pe hm, s_op hr ha.s hb.s⟩
theorem e_ix {r : R2} {g : T → T → Option R} {fa fb : M (Sls → Option T)} (ho : IxR X r) (hr : R2S X.K r g) (ha : EO X a ta fa) (hb : EO X b tb fb) (hp : PlainIx b) : EE X (.Subscript a b pos) (tOp r ta tb) (opE g fa fb) :=
  ⟨pe_ix ho ha.pe hb.pe hp, s_op hr ha.s hb.s⟩
/-- as a test -/
def bT (f : M R) : M Bool := fun τ => (f τ).bind fun p => match p.1.d with
  | .bl b => some (b, p.2)
  | _ => none
theorem s_test {K : PySem.W.Frag} {f : M R} (h : SE K te f) : SB K (tTest te) (bT f) := by
  intro τ τ' b σ H F Q e k c
  unfold bT at e
  obtain ⟨p, h1, e⟩ := Option.bind_eq_some_iff.mp e
  split at e
  · rename_i b' hb
    cases e
    refine h τ p.2 p.1 σ H F _ h1 k fun v H' F' k' s' q => ?_
    have hv : v = .bl b := by
      rcases q with ⟨_, q⟩ | ⟨_, q, rfl, _, _, _, o⟩
      · rw [hb] at q; cases q; rfl
      · rw [hb] at o; exact o.elim
    exact ⟨b, hv, c H' F' k' s'⟩
  · cases e
theorem b_cmp {op : CmpOp} {r : R2} {g : T → T → Option R} {fa fb : M (Sls → Option T)} (ho : OpR X (compareOp op) r) (hr : R2S X.K r g) (ha : EO X a ta fa) (hb : EO X b tb fb) (hm : behindInMarks op b = false) :
    EB X (.Compare a [op] [b] pos) (tTest (tOp r ta tb)) (bT (opE g fa fb)) := ⟨pt_cmpR ho ha.pe hb.pe hm, s_test (s_op hr ha.s hb.s)⟩
def trB (fa : M (Sls → Option T)) : M Bool := fun τ => (fa τ).bind fun p => (p.1 p.2).bind fun x => (truT x).map fun b => (b, p.2)
theorem b_tru {fa : M (Sls → Option T)} (ha : EO X a ta fa) (he : ∀ whole, isTrue a X.env whole = (do let v ← whole; standAt a.pos; holding [v] (truthy v))) :
    EB X a (fun σ H Q => ta σ H fun x H' => ∃ k, TruV X.K x H' k ∧ Q k H') (trB fa) := by
  refine ⟨pt_truth ha.pe he, ?_⟩
  intro τ τ' b σ H F Q e k c
  unfold trB at e
  obtain ⟨p, h1, e⟩ := Option.bind_eq_some_iff.mp e
  obtain ⟨x, h2, e⟩ := Option.bind_eq_some_iff.mp e
  obtain ⟨z, h3, e⟩ := Option.map_eq_some_iff.mp e
  cases e
  exact ha.s τ p.2 p.1 σ H F _ h1 k fun v H' F' k' s' l => ⟨_, s_tru h3 k'.sub (l _ _ _ _ k' .refl h2), c H' F' k' s'⟩
/-! ### and, or, not -/
def andB (f g : M Bool) : M Bool := fun τ => (f τ).bind fun p => if p.1 = true then g p.2 else some (false, p.2)
def orB (f g : M Bool) : M Bool := fun τ => (f τ).bind fun p => if p.1 = true then some (true, p.2) else g p.2
def notB (f : M Bool) : M Bool := fun τ => (f τ).map fun p => (!p.1, p.2)
variable {t u : TT} {f g : M Bool} {rest : List Expr}
theorem w_and1 (ha : EB X a t f) : EW X (.BoolOp .And [a] pos) t f := ⟨pw_and1 ha.pe, ha.s⟩
theorem w_or1 (ha : EB X a t f) : EW X (.BoolOp .Or [a] pos) t f := ⟨pw_or1 ha.pe, ha.s⟩
theorem w_and (ha : EB X a t f) (hb : EW X (.BoolOp .And (b :: rest) pos) u g) : EW X (.BoolOp .And (a :: b :: rest) pos) (tAnd t u) (andB f g) := by
  refine ⟨pw_and ha.pe hb.pe, ?_⟩
  intro τ τ' z σ H F Q e k c
  unfold andB at e
  obtain ⟨p, h1, e⟩ := Option.bind_eq_some_iff.mp e
  refine ha.s τ p.2 p.1 σ H F _ h1 k fun H' F' k' s' => ?_
  by_cases hp : p.1 = true
  · rw [if_pos hp] at e ⊢
    exact hb.s p.2 τ' z σ H' F' Q e k' fun H2 F2 k2 s2 => c H2 F2 k2 (s'.trans s2)
  · rw [if_neg hp] at e ⊢
    cases e
    exact c H' F' k' s'
theorem w_or (ha : EB X a t f) (hb : EW X (.BoolOp .Or (b :: rest) pos) u g) : EW X (.BoolOp .Or (a :: b :: rest) pos) (tOr t u) (orB f g) := by
  refine ⟨pw_or ha.pe hb.pe, ?_⟩
  intro τ τ' z σ H F Q e k c
  unfold orB at e
  obtain ⟨p, h1, e⟩ := Option.bind_eq_some_iff.mp e
  refine ha.s τ p.2 p.1 σ H F _ h1 k fun H' F' k' s' => ?_
  by_cases hp : p.1 = true
  · rw [if_pos hp] at e ⊢
    cases e
    exact c H' F' k' s'
  · rw [if_neg hp] at e ⊢
    exact hb.s p.2 τ' z σ H' F' Q e k' fun H2 F2 k2 s2 => c H2 F2 k2 (s'.trans s2)
theorem b_not (ha : EB X a t f) : EB X (.UnaryOp .Not a pos) (tNot t) (notB f) := by
  refine ⟨pt_not ha.pe, ?_⟩
  intro τ τ' z σ H F Q e k c
  unfold notB at e
  obtain ⟨p, h1, e⟩ := Option.map_eq_some_iff.mp e
  cases e
  exact ha.s τ p.2 p.1 σ H F _ h1 k c
/-- values, by truth -/
def andE (fa : M T) (fb : M R) : M R := fun τ => (fa τ).bind fun p => (truT p.1).bind fun z => if z = true then fb p.2 else some (⟨p.1, false⟩, p.2)
def orE (fa : M T) (fb : M R) : M R := fun τ => (fa τ).bind fun p => (truT p.1).bind fun z => if z = true then some (⟨p.1, false⟩, p.2) else fb p.2
def notE (fa : M (Sls → Option T)) : M R := fun τ => (fa τ).bind fun p => (p.1 p.2).bind fun x => (truT x).map fun b => (rb (!b), p.2)
theorem e_and {fa : M T} {fb : M R} (ha : EV X a ta fa) (hb : EE X (.BoolOp .And (b :: rest) pos) tb fb) : EE X (.BoolOp .And (a :: b :: rest) pos) (tAndT X.K ta tb) (andE fa fb) := by
  refine ⟨pe_andT ha.pe hb.pe, ?_⟩
  intro τ τ' r σ H F Q e k c
  unfold andE at e
  obtain ⟨p, h1, e⟩ := Option.bind_eq_some_iff.mp e
  obtain ⟨z, h2, e⟩ := Option.bind_eq_some_iff.mp e
  refine ha.s τ p.2 p.1 σ H F _ h1 k fun v H' F' k' s' q => ⟨z, s_tru h2 k'.sub (.inl q), ?_⟩
  cases z with
  | true =>
    rw [if_pos rfl] at e ⊢
    exact hb.s p.2 τ' r σ H' F' Q e k' fun v2 H2 F2 k2 s2 q2 => c v2 H2 F2 k2 (s'.trans s2) (q2.back s')
  | false =>
    rw [if_neg Bool.false_ne_true] at e ⊢
    cases e
    exact c v H' F' k' s' (.inl ⟨rfl, q⟩)
theorem e_or {fa : M T} {fb : M R} (ha : EV X a ta fa) (hb : EE X (.BoolOp .Or (b :: rest) pos) tb fb) : EE X (.BoolOp .Or (a :: b :: rest) pos) (tOrT X.K ta tb) (orE fa fb) := by
  refine ⟨pe_orT ha.pe hb.pe, ?_⟩
  intro τ τ' r σ H F Q e k c
  unfold orE at e
  obtain ⟨p, h1, e⟩ := Option.bind_eq_some_iff.mp e
  obtain ⟨z, h2, e⟩ := Option.bind_eq_some_iff.mp e
  refine ha.s τ p.2 p.1 σ H F _ h1 k fun v H' F' k' s' q => ⟨z, s_tru h2 k'.sub (.inl q), ?_⟩
  cases z with
  | true =>
    rw [if_pos rfl] at e ⊢
    cases e
    exact c v H' F' k' s' (.inl ⟨rfl, q⟩)
  | false =>
    rw [if_neg Bool.false_ne_true] at e ⊢
    exact hb.s p.2 τ' r σ H' F' Q e k' fun v2 H2 F2 k2 s2 q2 => c v2 H2 F2 k2 (s'.trans s2) (q2.back s')
theorem e_not {fa : M (Sls → Option T)} (ha : EO X a ta fa) : EE X (.UnaryOp .Not a pos) (tNotT X.K ta) (notE fa) := by
  refine ⟨pe_notT ha.pe, ?_⟩
  intro τ τ' r σ H F Q e k c
  unfold notE at e
  obtain ⟨p, h1, e⟩ := Option.bind_eq_some_iff.mp e
  obtain ⟨x, h2, e⟩ := Option.bind_eq_some_iff.mp e
  obtain ⟨z, h3, e⟩ := Option.map_eq_some_iff.mp e
  cases e
  exact ha.s τ p.2 p.1 σ H F _ h1 k fun v H' F' k' s' l => ⟨_, s_tru h3 k'.sub (l _ _ _ _ k' .refl h2), c _ H' F' k' s' (.inl ⟨rfl, .bl _⟩)⟩
/-- a if t else b -/
def ifE (t : M Bool) (f g : M R) : M R := fun τ => (t τ).bind fun p => if p.1 = true then f p.2 else g p.2
theorem e_if {t : TT} {ft : M Bool} {fa fb : M R} (hc : EB X c t ft) (ha : EE X a ta fa) (hb : EE X b tb fb) : EE X (.IfExp c a b pos) (tIf t ta tb) (ifE ft fa fb) := by
  refine ⟨pe_ifExp hc.pe ha.pe hb.pe, ?_⟩
  intro τ τ' r σ H F Q e k cc
  unfold ifE at e
  obtain ⟨p, h1, e⟩ := Option.bind_eq_some_iff.mp e
  refine hc.s τ p.2 p.1 σ H F _ h1 k fun H' F' k' s' => ?_
  by_cases hp : p.1 = true
  · rw [if_pos hp] at e ⊢
    exact ha.s p.2 τ' r σ H' F' Q e k' fun v2 H2 F2 k2 s2 q2 => cc v2 H2 F2 k2 (s'.trans s2) (q2.back s')
  · rw [if_neg hp] at e ⊢
    exact hb.s p.2 τ' r σ H' F' Q e k' fun v2 H2 F2 k2 s2 q2 => cc v2 H2 F2 k2 (s'.trans s2) (q2.back s')
/-! ### chains -/
def chE (g g' : T → T → Option R) (fa fb fc : M (Sls → Option T)) : M R := fun τ =>
  (fa τ).bind fun p => (fb p.2).bind fun q => (p.1 q.2).bind fun x => (q.1 q.2).bind fun y => (g x y).bind fun r => match r.d with
    | .bl true => (fc q.2).bind fun w => (q.1 w.2).bind fun y' => (w.1 w.2).bind fun z => (g' y' z).map fun r => (r, w.2)
    | .bl false => some (rb false, q.2)
    | _ => none
theorem RO.bl {K : PySem.W.Frag} {F' H' H : Hp} {v : V} {r : R} {b : Bool} (h : RO K F' H' H v r) (hb : r.d = .bl b) : v = .bl b := by
  rcases h with ⟨_, q⟩ | ⟨_, q, rfl, _, _, o⟩
  · rw [hb] at q; cases q; rfl
  · rw [hb] at o; exact o.elim
theorem s_chain {K : PySem.W.Frag} {r r' : R2} {g g' : T → T → Option R} {fa fb fc : M (Sls → Option T)} (hr : R2S K r g) (hr' : R2S K r' g') (ha : SO K ta fa) (hb : SO K tb fb) (hc : SO K tc fc) :
    SE K (tChain r r' ta tb tc) (chE g g' fa fb fc) := by
  intro τ τ' res σ H F Q e k c
  unfold chE at e
  obtain ⟨p, h1, e⟩ := Option.bind_eq_some_iff.mp e
  obtain ⟨q, h2, e⟩ := Option.bind_eq_some_iff.mp e
  obtain ⟨x, h3, e⟩ := Option.bind_eq_some_iff.mp e
  obtain ⟨y, h4, e⟩ := Option.bind_eq_some_iff.mp e
  obtain ⟨z, h5, e⟩ := Option.bind_eq_some_iff.mp e
  refine ha τ p.2 p.1 σ H F _ h1 k fun v H1 F1 k1 s1 l1 => hb p.2 q.2 q.1 σ H1 F1 _ h2 k1 fun u H2 F2 k2 s2 l2 => ?_
  refine hr v u x y z F2 H2 _ h5 k2.sub (l1 _ _ _ _ k2 s2 h3) (l2 _ _ _ _ k2 .refl h4) fun w H3 F3 g3 ro => ?_
  have k3 := k2.grow g3
  split at e
  · rename_i hz
    obtain ⟨w', h6, e⟩ := Option.bind_eq_some_iff.mp e
    obtain ⟨y', h7, e⟩ := Option.bind_eq_some_iff.mp e
    obtain ⟨z', h8, e⟩ := Option.bind_eq_some_iff.mp e
    obtain ⟨r2, h9, e⟩ := Option.map_eq_some_iff.mp e
    cases e
    refine ⟨true, ro.bl hz, ?_⟩
    rw [if_pos rfl]
    refine hc q.2 w'.2 w'.1 σ H3 F3 _ h6 k3 fun u' H4 F4 k4 s4 l4 => ?_
    refine hr' u u' y' z' _ F4 H4 Q h9 k4.sub (l2 _ _ _ _ k4 (g3.step.trans s4) h7) (l4 _ _ _ _ k4 .refl h8) fun v5 H5 F5 g5 ro5 => ?_
    have st := s1.trans (s2.trans (g3.step.trans s4))
    exact c v5 H5 F5 (k4.grow g5) (st.trans g5.step) ((ro5.ok k4 g5).back st)
  · rename_i hz
    cases e
    refine ⟨false, ro.bl hz, ?_⟩
    rw [if_neg Bool.false_ne_true]
    exact c _ H3 F3 k3 (s1.trans (s2.trans g3.step)) (.inl ⟨rfl, .bl false⟩)
  · cases e
theorem e_chain {op op' : CmpOp} {r r' : R2} {g g' : T → T → Option R} {fa fb fc : M (Sls → Option T)} (ho : OpR X (compareOp op) r) (hr : R2S X.K r g) (ho' : OpR X (compareOp op') r') (hr' : R2S X.K r' g')
    (ha : EO X a ta fa) (hb : EO X b tb fb) (hc : EO X c tc fc) (hm : lastMarks [op, op'] [b, c] = false := by with_unfolding_all rfl) : EE X (.Compare a [op, op'] [b, c] pos) (tChain r r' ta tb tc) (chE g g' fa fb fc) :=
  ⟨pe_chain ho ho' ha.pe hb.pe hc.pe hm, s_chain hr hr' ha.s hb.s hc.s⟩
theorem b_chain {op op' : CmpOp} {r r' : R2} {g g' : T → T → Option R} {fa fb fc : M (Sls → Option T)} (ho : OpR X (compareOp op) r) (hr : R2S X.K r g) (ho' : OpR X (compareOp op') r') (hr' : R2S X.K r' g')
    (ha : EO X a ta fa) (hb : EO X b tb fb) (hc : EO X c tc fc) (hm : lastMarks [op, op'] [b, c] = false := by with_unfolding_all rfl) : EB X (.Compare a [op, op'] [b, c] pos) (tTest (tChain r r' ta tb tc)) (bT (chE g g' fa fb fc)) :=
  ⟨pt_chain ho ho' ha.pe hb.pe hc.pe hm, s_test (s_chain hr hr' ha.s hb.s hc.s)⟩
/-! ### one operand -/
def unE (g : T → Option R) (fa : M (Sls → Option T)) : M R := fun τ => (fa τ).bind fun p => (p.1 p.2).bind fun x => (g x).map fun r => (r, p.2)
theorem s_un {K : PySem.W.Frag} {r : V → Hp → VK → Prop} {g : T → Option R} {fa : M (Sls → Option T)} (hr : R1S K r g) (ha : SO K ta fa) : SE K (tUn r ta) (unE g fa) := by
  intro τ τ' res σ H F Q e k c
  unfold unE at e
  obtain ⟨p, h1, e⟩ := Option.bind_eq_some_iff.mp e
  obtain ⟨x, h3, e⟩ := Option.bind_eq_some_iff.mp e
  obtain ⟨z, h5, e⟩ := Option.map_eq_some_iff.mp e
  cases e
  refine ha τ p.2 p.1 σ H F _ h1 k fun v H1 F1 k1 s1 l1 => hr v x _ F1 H1 Q h5 k1.sub (l1 _ _ _ _ k1 .refl h3) fun w H' F' g ro => ?_
  exact c w H' F' (k1.grow g) (s1.trans g.step) ((ro.ok k1 g).back s1)
theorem e_un {op : UnaryOp} {r : V → Hp → VK → Prop} {g : T → Option R} {fa : M (Sls → Option T)} (ho : UnR X (unaryOp op) r) (hr : R1S X.K r g) (ha : EO X a ta fa) : EE X (.UnaryOp op a pos) (tUn r ta) (unE g fa) := ⟨pe_un ho ha.pe, s_un hr ha.s⟩
def negG : T → Option R
  | .int i => some (ri (-i))
  | _ => none
theorem s_neg {K : PySem.W.Frag} : R1S K (rU fun i => .int (-i)) negG := by
  intro x a res F H Q e s lx c
  unfold negG at e
  split at e
  · cases e
    rw [lx.int]
    exact ⟨_, rfl, here s (.int _) c⟩
  · cases e
end
end TR

namespace TR
open PySem L2

/-! ### lists of arguments -/
def SAV (K : PySem.W.Frag) (ta : TA) (f : M (List T)) : Prop := ∀ (τ τ' : Sls) (ds : List T) (σ : L2.St) (H F : Hp) (Q : List V → Hp → Prop), f τ = some (ds, τ') → Ok K F τ σ H →
  (∀ vs H' F', Ok K F' τ' σ H' → Stp τ σ H F τ' σ H' F' → RpA K F' vs ds → Q vs H') → ta σ H Q
structure EAV (X : Cx) (es : List Expr) (ta : TA) (f : M (List T)) : Prop where
  pe : PA X es ta
  s : SAV X.K ta f
def nilV : M (List T) := fun τ => some ([], τ)
def consV (f : M T) (g : M (List T)) : M (List T) := fun τ => (f τ).bind fun p => (g p.2).map fun q => (p.1 :: q.1, q.2)
inductive LkA (K : PySem.W.Frag) (F H : Hp) : List V → List T → Prop
  | nil : LkA K F H [] []
  | cons {v : V} {vs : List V} {d : T} {ds : List T} : Lk K F H v d → LkA K F H vs ds → LkA K F H (v :: vs) (d :: ds)
def allRd : List (Sls → Option T) → Sls → Option (List T)
  | [], _ => some []
  | r :: rs, τ => (r τ).bind fun d => (allRd rs τ).map fun ds => d :: ds
def SAO (K : PySem.W.Frag) (ta : TA) (f : M (List (Sls → Option T))) : Prop := ∀ (τ τ' : Sls) (rs : List (Sls → Option T)) (σ : L2.St) (H F : Hp) (Q : List V → Hp → Prop), f τ = some (rs, τ') → Ok K F τ σ H →
  (∀ vs H' F', Ok K F' τ' σ H' → Stp τ σ H F τ' σ H' F' →
    (∀ τ2 H2 F2 ds, Ok K F2 τ2 σ H2 → Stp τ' σ H' F' τ2 σ H2 F2 → allRd rs τ2 = some ds → LkA K F2 H2 vs ds) → Q vs H') → ta σ H Q
structure EAO (X : Cx) (es : List Expr) (ta : TA) (f : M (List (Sls → Option T))) : Prop where
  pe : PA X es ta
  s : SAO X.K ta f
def nilO : M (List (Sls → Option T)) := fun τ => some ([], τ)
def consO (f : M (Sls → Option T)) (g : M (List (Sls → Option T))) : M (List (Sls → Option T)) := fun τ => (f τ).bind fun p => (g p.2).map fun q => (p.1 :: q.1, q.2)
/-- an argument of a call: a value, or a name whose root is lent -/
inductive Ag where
  | val (d : T) | plc (i : Nat)
inductive AgA (K : PySem.W.Frag) (F : Hp) (σ : L2.St) : List Ag → List V → Prop
  | nil : AgA K F σ [] []
  | val {d : T} {v : V} {as : List Ag} {vs : List V} : Rp K F v d → AgA K F σ as vs → AgA K F σ (.val d :: as) (v :: vs)
  | plc {i : Nat} {v : V} {as : List Ag} {vs : List V} : σ[i]? = some (some v) → AgA K F σ as vs → AgA K F σ (.plc i :: as) (v :: vs)
theorem AgA.mono {K : PySem.W.Frag} {F F' : Hp} {σ : L2.St} (s : Same F F') : ∀ {as : List Ag} {vs : List V}, AgA K F σ as vs → AgA K F' σ as vs
  | _, _, .nil => .nil
  | _, _, .val a b => .val (a.mono s) (b.mono s)
  | _, _, .plc a b => .plc a (b.mono s)
def SAC (K : PySem.W.Frag) (ta : TA) (f : M (List Ag)) : Prop := ∀ (τ τ' : Sls) (as : List Ag) (σ : L2.St) (H F : Hp) (Q : List V → Hp → Prop), f τ = some (as, τ') → Ok K F τ σ H →
  (∀ vs H' F', Ok K F' τ' σ H' → Stp τ σ H F τ' σ H' F' → AgA K F' σ as vs → Q vs H') → ta σ H Q
structure EAC (X : Cx) (es : List Expr) (ta : TA) (f : M (List Ag)) : Prop where
  pe : PA X es ta
  s : SAC X.K ta f
def nilC : M (List Ag) := fun τ => some ([], τ)
def consC (f : M T) (g : M (List Ag)) : M (List Ag) := fun τ => (f τ).bind fun p => (g p.2).map fun q => (.val p.1 :: q.1, q.2)
def plcC (i : Nat) (g : M (List Ag)) : M (List Ag) := fun τ => (slT τ[i]?).bind fun _ => (g τ).map fun q => (.plc i :: q.1, q.2)
section
variable {X : Cx} {e : Expr} {es : List Expr} {te : TE} {ta : TA} {pos : Pos}
theorem av_nil : EAV X [] tNil nilV := ⟨pa_nil, fun τ τ' ds σ H F Q e k c => by cases e; exact c [] H F k .refl .nil⟩
theorem av_cons {f : M T} {g : M (List T)} (h : EV X e te f) (hr : EAV X es ta g) (hs : starEach (e :: es) X.env = (false, eval e X.env) :: starEach es X.env := by rfl) : EAV X (e :: es) (tCons te ta) (consV f g) := by
  refine ⟨pa_cons h.pe hr.pe hs, fun τ τ' ds σ H F Q e k c => ?_⟩
  unfold consV at e
  obtain ⟨p, h1, e⟩ := Option.bind_eq_some_iff.mp e
  obtain ⟨q, h2, e⟩ := Option.map_eq_some_iff.mp e
  cases e
  exact h.s τ p.2 p.1 σ H F _ h1 k fun v H1 F1 k1 s1 r1 => hr.s p.2 q.2 q.1 σ H1 F1 _ h2 k1 fun vs H2 F2 k2 s2 r2 => c _ H2 F2 k2 (s1.trans s2) (.cons (r1.mono s2.fr) r2)
theorem ao_nil : EAO X [] tNil nilO := ⟨pa_nil, fun τ τ' ds σ H F Q e k c => by cases e; exact c [] H F k .refl fun τ2 H2 F2 ds _ _ e => by cases e; exact .nil⟩
theorem ao_cons {f : M (Sls → Option T)} {g : M (List (Sls → Option T))} (h : EO X e te f) (hr : EAO X es ta g) (hs : starEach (e :: es) X.env = (false, eval e X.env) :: starEach es X.env := by rfl) : EAO X (e :: es) (tCons te ta) (consO f g) := by
  refine ⟨pa_cons h.pe hr.pe hs, fun τ τ' ds σ H F Q e k c => ?_⟩
  unfold consO at e
  obtain ⟨p, h1, e⟩ := Option.bind_eq_some_iff.mp e
  obtain ⟨q, h2, e⟩ := Option.map_eq_some_iff.mp e
  cases e
  refine h.s τ p.2 p.1 σ H F _ h1 k fun v H1 F1 k1 s1 l1 => hr.s p.2 q.2 q.1 σ H1 F1 _ h2 k1 fun vs H2 F2 k2 s2 l2 => c _ H2 F2 k2 (s1.trans s2) fun τ3 H3 F3 ds k3 s3 e3 => ?_
  unfold allRd at e3
  obtain ⟨d, e1, e3⟩ := Option.bind_eq_some_iff.mp e3
  obtain ⟨ds', e2, e3⟩ := Option.map_eq_some_iff.mp e3
  cases e3
  exact .cons (l1 τ3 H3 F3 d k3 (s2.trans s3) e1) (l2 τ3 H3 F3 ds' k3 s3 e2)
theorem ac_nil : EAC X [] tNil nilC := ⟨pa_nil, fun τ τ' ds σ H F Q e k c => by cases e; exact c [] H F k .refl .nil⟩
theorem ac_cons {f : M T} {g : M (List Ag)} (h : EV X e te f) (hr : EAC X es ta g) (hs : starEach (e :: es) X.env = (false, eval e X.env) :: starEach es X.env := by rfl) : EAC X (e :: es) (tCons te ta) (consC f g) := by
  refine ⟨pa_cons h.pe hr.pe hs, fun τ τ' ds σ H F Q e k c => ?_⟩
  unfold consC at e
  obtain ⟨p, h1, e⟩ := Option.bind_eq_some_iff.mp e
  obtain ⟨q, h2, e⟩ := Option.map_eq_some_iff.mp e
  cases e
  exact h.s τ p.2 p.1 σ H F _ h1 k fun v H1 F1 k1 s1 r1 => hr.s p.2 q.2 q.1 σ H1 F1 _ h2 k1 fun vs H2 F2 k2 s2 r2 => c _ H2 F2 k2 (s1.trans s2) (.val (r1.mono s2.fr) r2)
theorem ac_plc (i : Nat) {x : Str} {p : Pos} {g : M (List Ag)} (hr : EAC X es ta g) (hN : X.N[i]? = some x := by rfl) (hv : Vis X.env.scope x := by first | exact Or.inl rfl | exact Or.inr (Or.inl rfl) | exact Or.inr (Or.inr rfl)) (hd : (x == ("__debug__" : Str)) = false := by decide)
    (hcd : (x == ("__classdict__" : Str)) = false := by decide) (hs : starEach (.Name x p :: es) X.env = (false, eval (.Name x p) X.env) :: starEach es X.env := by rfl) : EAC X (.Name x p :: es) (tCons (tVar i) ta) (plcC i g) := by
  refine ⟨pa_cons (pe_var hN hv hd hcd) hr.pe hs, fun τ τ' ds σ H F Q e k c => ?_⟩
  unfold plcC at e
  obtain ⟨d, h1, e⟩ := Option.bind_eq_some_iff.mp e
  obtain ⟨q, h2, e⟩ := Option.map_eq_some_iff.mp e
  cases e
  cases es : τ[i]? with
  | none => rw [es] at h1; cases h1
  | some s =>
    have hn : s ≠ .no := fun z => by rw [es, z] at h1; cases h1
    obtain ⟨v, hv, _⟩ := k.val es hn
    exact ⟨v, hv, hr.s τ q.2 q.1 σ H F _ h2 k fun vs H2 F2 k2 s2 r2 => c _ H2 F2 k2 s2 (.plc hv r2)⟩

/-! ### displays -/
def tupE (f : M (List T)) : M R := fun τ => (f τ).bind fun p => if p.1.length ≤ sizeLine then some (⟨.tup p.1, false⟩, p.2) else none
def lstE (f : M (List T)) : M R := fun τ => (f τ).bind fun p => if p.1.length ≤ sizeLine then some (⟨.lst p.1, true⟩, p.2) else none
theorem e_tup {x1} {f : M (List T)} (h : EAV X es ta f) : EE X (.Tuple es x1 pos) (tTup ta) (tupE f) := by
  refine ⟨pe_tup h.pe, fun τ τ' r σ H F Q e k c => ?_⟩
  unfold tupE at e
  obtain ⟨p, h1, e⟩ := Option.bind_eq_some_iff.mp e
  split at e
  · rename_i hz
    cases e
    refine h.s τ p.2 p.1 σ H F _ h1 k fun vs H1 F1 k1 s1 r1 => ⟨by rw [r1.length]; exact hz, fun l hl => ?_⟩
    exact new_tup k1.sub hl r1 fun v H' F' g ro => c v H' F' (k1.grow g) (s1.trans g.step) ((ro.ok k1 g).back s1)
  · cases e
theorem e_lst {f : M (List T)} (h : EAV X es ta f) : EE X (.List es pos) (tLst ta) (lstE f) := by
  refine ⟨pe_lst h.pe, fun τ τ' r σ H F Q e k c => ?_⟩
  unfold lstE at e
  obtain ⟨p, h1, e⟩ := Option.bind_eq_some_iff.mp e
  split at e
  · rename_i hz
    cases e
    refine h.s τ p.2 p.1 σ H F _ h1 k fun vs H1 F1 k1 s1 r1 => ⟨by rw [r1.length]; exact hz, fun l hl => ?_⟩
    exact new_lst k1.sub hl r1 fun v H' F' g ro => c v H' F' (k1.grow g) (s1.trans g.step) ((ro.ok k1 g).back s1)
  · cases e
def dicE : M R := fun τ => some (⟨.dic [], true⟩, τ)
def ditE : M R := fun τ => some (⟨.dit [], true⟩, τ)
theorem Ok.fresh {K : PySem.W.Frag} {F H : Hp} {τ : Sls} {σ : L2.St} (k : Ok K F τ σ H) {p : Addr} (h : H p = none) : F p = none ∧ ¬ IsRoot τ σ p :=
  ⟨k.sub.free h, fun z => by obtain ⟨o, e⟩ := k.rootH z; rw [h] at e; cases e⟩
theorem e_dic : EE X (.Dict [] [] pos) tDNewK dicE := ⟨pe_dnewK, fun τ τ' r σ H F Q e k c => by
  cases e
  intro p hp
  have g := Grow.updH (o := .dK []) k.sub hp
  obtain ⟨f1, f2⟩ := k.fresh hp
  exact c _ _ F (k.grow g) g.step (.inr ⟨rfl, p, rfl, f1, f2, .inl hp, [], upd_same, .nil⟩)⟩
theorem e_dit : EE X (.Dict [] [] pos) tDNewT ditE := ⟨pe_dnewT, fun τ τ' r σ H F Q e k c => by
  cases e
  intro p hp
  have g := Grow.updH (o := .dT []) k.sub hp
  obtain ⟨f1, f2⟩ := k.fresh hp
  exact c _ _ F (k.grow g) g.step (.inr ⟨rfl, p, rfl, f1, f2, .inl hp, [], upd_same, .nil⟩)⟩

/-! ### built-ins -/
def RLS (K : PySem.W.Frag) (r : List V → Hp → VK → Prop) (g : List T → Option R) : Prop := ∀ (xs : List V) (as : List T) (res : R) (F H : Hp) (Q : VK), g as = some res → Same F H → LkA K F H xs as →
  (∀ v H' F', Grow H F H' F' → RO K F' H' H v res → Q v H') → r xs H Q
def calE (g : List T → Option R) (f : M (List (Sls → Option T))) : M R := fun τ => (f τ).bind fun p => (allRd p.1 p.2).bind fun ds => (g ds).map fun r => (r, p.2)
theorem s_cal {K : PySem.W.Frag} {r : List V → Hp → VK → Prop} {g : List T → Option R} {f : M (List (Sls → Option T))} (hr : RLS K r g) (ha : SAO K ta f) : SE K (tCB r ta) (calE g f) := by
  intro τ τ' res σ H F Q e k c
  unfold calE at e
  obtain ⟨p, h1, e⟩ := Option.bind_eq_some_iff.mp e
  obtain ⟨ds, h2, e⟩ := Option.bind_eq_some_iff.mp e
  obtain ⟨r', h3, e⟩ := Option.map_eq_some_iff.mp e
  cases e
  refine ha τ p.2 p.1 σ H F _ h1 k fun vs H1 F1 k1 s1 l1 => hr vs ds _ F1 H1 Q h3 k1.sub (l1 _ _ _ _ k1 .refl h2) fun v H' F' g ro => ?_
  exact c v H' F' (k1.grow g) (s1.trans g.step) ((ro.ok k1 g).back s1)
theorem e_callB {x : Str} {id : String} {p : Pos} {r : List V → Hp → VK → Prop} {g : List T → Option R} {f : M (List (Sls → Option T))} (hr : RLS X.K r g) (hc : CallR X (.builtin id) r) (hg : Gl X x) (hm : X.mg x = none) (hv : bootBuiltins x = some (.builtin id)) (ha : EAO X (e :: es) ta f)
    (hn : x ≠ "__name__" := by decide) (hdb : (x == ("__debug__" : Str)) = false := by decide)
    (he : starEach (e :: es) X.env = (false, eval e X.env) :: starEach es X.env := by rfl) (hpl : (backTo pos (starEach es X.env)).any (·.1) = false := by rfl) : EE X (.Call (.Name x p) (e :: es) [] pos) (tCB r ta) (calE g f) :=
  ⟨pe_callB hc hg hm hv ha.pe hn hdb he hpl, s_cal hr ha.s⟩
theorem e_callT {x : Str} {id : String} {p : Pos} {r : List V → Hp → VK → Prop} {g : List T → Option R} {f : M (List (Sls → Option T))} (hr : RLS X.K r g) (hc : CallR X (.type id) r) (hg : Gl X x) (hm : X.mg x = none) (hv : bootBuiltins x = some (.type id)) (ha : EAO X (e :: es) ta f)
    (hn : x ≠ "__name__" := by decide) (hdb : (x == ("__debug__" : Str)) = false := by decide)
    (he : starEach (e :: es) X.env = (false, eval e X.env) :: starEach es X.env := by rfl) (hpl : (backTo pos (starEach es X.env)).any (·.1) = false := by rfl) : EE X (.Call (.Name x p) (e :: es) [] pos) (tCB r ta) (calE g f) :=
  ⟨pe_callTy hc hg hm hv ha.pe hn hdb he hpl, s_cal hr ha.s⟩
end

/-! ### calls of defs -/
abbrev FnS := Sls → Option (R × Sls)
def Sl.isPar : Sl → Bool
  | .fr _ => true
  | .ln _ => true
  | _ => false
def spT (K : PySem.W.Frag) (n : Nat) (f : FnS) : Sp := fun vs H Q _ => vs.length = n ∧ ∃ F τ r τ', Ok K F τ (vs.map some) H ∧ (∀ s ∈ τ, s.isPar = true) ∧ f τ = some (r, τ') ∧
  ∀ v H' F', Ok K F' τ' (vs.map some) H' → Stp τ (vs.map some) H F τ' (vs.map some) H' F' → ROk K F' H' τ' (vs.map some) τ (vs.map some) H v r → Q v H'
def agS (τ : Sls) : Ag → Option Sl
  | .val d => some (.fr d)
  | .plc i => match τ[i]? with
    | some (.fr d) => some (.fr d)
    | some (.ow d) => some (.ln d)
    | some (.ln d) => some (.ln d)
    | _ => none
def parm (τ : Sls) : List Ag → Option Sls
  | [] => some []
  | a :: as => (agS τ a).bind fun s => (parm τ as).map fun r => s :: r
def plcs : List Ag → List Nat
  | [] => []
  | .plc i :: r => i :: plcs r
  | .val _ :: r => plcs r
def nodupN : List Nat → Bool
  | [] => true
  | i :: r => !r.contains i && nodupN r
def findP (j : Nat) : List Ag → Sls → Option T
  | .plc i :: as, .ln d :: ss => if i = j then some d else findP j as ss
  | _ :: as, _ :: ss => findP j as ss
  | _, _ => none
def mapI (f : Nat → Sl → Sl) : Nat → Sls → Sls
  | _, [] => []
  | n, s :: r => f n s :: mapI f (n + 1) r
theorem mapI_get (f : Nat → Sl → Sl) : ∀ (τ : Sls) (n j : Nat), (mapI f n τ)[j]? = (τ[j]?).map (f (n + j))
  | [], _, _ => by simp [mapI]
  | s :: r, n, 0 => by simp [mapI]
  | s :: r, n, j + 1 => by
    simp only [mapI, List.getElem?_cons_succ]
    rw [mapI_get f r (n + 1) j]
    congr 2
    omega
theorem mapI_length (f : Nat → Sl → Sl) : ∀ (τ : Sls) (n : Nat), (mapI f n τ).length = τ.length
  | [], _ => rfl
  | s :: r, n => congrArg Nat.succ (mapI_length f r (n + 1))
def unS (as : List Ag) (ss : Sls) (j : Nat) (s : Sl) : Sl := match s, findP j as ss with
  | .ow _, some d => .ow d
  | .ln _, some d => .ln d
  | s, _ => s
def unparm (τ : Sls) (as : List Ag) (ss : Sls) : Sls := mapI (unS as ss) 0 τ
def callE (f : FnS) (fa : M (List Ag)) : M R := fun τ => (fa τ).bind fun p => if nodupN (plcs p.1) = true then (parm p.2 p.1).bind fun τc => (f τc).map fun q => (q.1, unparm p.2 p.1 q.2) else none
theorem findP_some {j : Nat} {d : T} : ∀ {as : List Ag} {ss : Sls}, findP j as ss = some d → ∃ m : Nat, as[m]? = some (.plc j) ∧ ss[m]? = some (.ln d)
  | [], ss, h => by simp [findP] at h
  | .plc i :: as, [], h => by simp [findP] at h
  | .val _ :: as, [], h => by simp [findP] at h
  | .plc i :: as, .ln d' :: ss, h => by
    simp only [findP] at h
    split at h
    · rename_i hi
      cases h
      exact ⟨0, by simp [hi], rfl⟩
    · obtain ⟨m, h1, h2⟩ := findP_some h
      exact ⟨m + 1, by simpa using h1, by simpa using h2⟩
  | .plc i :: as, .no :: ss, h | .plc i :: as, .fr _ :: ss, h | .plc i :: as, .ow _ :: ss, h => by
    simp only [findP] at h
    obtain ⟨m, h1, h2⟩ := findP_some h
    exact ⟨m + 1, by simpa using h1, by simpa using h2⟩
  | .val _ :: as, s :: ss, h => by
    simp only [findP] at h
    obtain ⟨m, h1, h2⟩ := findP_some h
    exact ⟨m + 1, by simpa using h1, by simpa using h2⟩
theorem findP_there {j : Nat} {d : T} : ∀ {as : List Ag} {ss : Sls} {m : Nat}, as[m]? = some (.plc j) → ss[m]? = some (.ln d) → (findP j as ss).isSome = true
  | [], _, _, h, _ => by simp at h
  | _ :: _, [], _, _, h => by simp at h
  | .plc i :: as, .ln d' :: ss, m, h1, h2 => by
    simp only [findP]
    split
    · rfl
    · rename_i hi
      cases m with
      | zero => simp at h1; exact absurd h1 hi
      | succ m => exact findP_there (m := m) (by simpa using h1) (by simpa using h2)
  | .plc i :: as, .no :: ss, m, h1, h2 | .plc i :: as, .fr _ :: ss, m, h1, h2 | .plc i :: as, .ow _ :: ss, m, h1, h2 | .val _ :: as, s :: ss, m, h1, h2 => by
    simp only [findP]
    cases m with
    | zero => simp at h1 h2
    | succ m => exact findP_there (m := m) (by simpa using h1) (by simpa using h2)
theorem plcs_mem {i : Nat} : ∀ {as : List Ag} {m : Nat}, as[m]? = some (.plc i) → i ∈ plcs as
  | [], _, h => by simp at h
  | .plc j :: r, 0, h => by simp at h; simp [plcs, h]
  | .val _ :: r, 0, h => by simp at h
  | .plc j :: r, m + 1, h => List.mem_cons_of_mem _ (plcs_mem (m := m) (by simpa using h))
  | .val _ :: r, m + 1, h => plcs_mem (as := r) (m := m) (by simpa using h)
theorem plcs_inj {i : Nat} : ∀ {as : List Ag} {m n : Nat}, nodupN (plcs as) = true → as[m]? = some (.plc i) → as[n]? = some (.plc i) → m = n
  | [], _, _, _, h, _ => by simp at h
  | .plc j :: r, 0, 0, _, _, _ => rfl
  | .val _ :: r, 0, _, _, h, _ => by simp at h
  | .val _ :: r, _ + 1, 0, _, _, h => by simp at h
  | .plc j :: r, 0, n + 1, h, h1, h2 => by
    simp at h1
    subst h1
    simp only [plcs, nodupN, Bool.and_eq_true, Bool.not_eq_true', List.contains_eq_mem, decide_eq_false_iff_not] at h
    exact absurd (plcs_mem (m := n) (by simpa using h2)) h.1
  | .plc j :: r, m + 1, 0, h, h1, h2 => by
    simp at h2
    subst h2
    simp only [plcs, nodupN, Bool.and_eq_true, Bool.not_eq_true', List.contains_eq_mem, decide_eq_false_iff_not] at h
    exact absurd (plcs_mem (m := m) (by simpa using h1)) h.1
  | .plc j :: r, m + 1, n + 1, h, h1, h2 => by
    simp only [plcs, nodupN, Bool.and_eq_true] at h
    exact congrArg Nat.succ (plcs_inj h.2 (by simpa using h1) (by simpa using h2))
  | .val _ :: r, m + 1, n + 1, h, h1, h2 => congrArg Nat.succ (plcs_inj (as := r) h (by simpa using h1) (by simpa using h2))
theorem parm_length {τ : Sls} : ∀ {as : List Ag} {τc : Sls}, parm τ as = some τc → τc.length = as.length
  | [], _, h => by cases h; rfl
  | a :: as, τc, h => by
    simp only [parm] at h
    obtain ⟨s, _, h⟩ := Option.bind_eq_some_iff.mp h
    obtain ⟨r, h2, h⟩ := Option.map_eq_some_iff.mp h
    cases h
    exact congrArg Nat.succ (parm_length h2)
theorem parm_get {τ : Sls} : ∀ {as : List Ag} {τc : Sls} {m : Nat} {s : Sl}, parm τ as = some τc → τc[m]? = some s → ∃ a, as[m]? = some a ∧ agS τ a = some s
  | [], _, _, _, h, h2 => by cases h; simp at h2
  | a :: as, τc, m, s, h, h2 => by
    simp only [parm] at h
    obtain ⟨s', h1, h⟩ := Option.bind_eq_some_iff.mp h
    obtain ⟨r, h3, h⟩ := Option.map_eq_some_iff.mp h
    cases h
    cases m with
    | zero => simp at h2; subst h2; exact ⟨a, rfl, h1⟩
    | succ m =>
      obtain ⟨a', e1, e2⟩ := parm_get (m := m) h3 (by simpa using h2)
      exact ⟨a', by simpa using e1, e2⟩
theorem agS_par {τ : Sls} {a : Ag} {s : Sl} (h : agS τ a = some s) : s.isPar = true := by
  cases a with
  | val d => cases h; rfl
  | plc i =>
    simp only [agS] at h
    split at h <;> first | (cases h; rfl) | cases h
theorem AgA.length {K : PySem.W.Frag} {F : Hp} {σ : L2.St} : ∀ {as : List Ag} {vs : List V}, AgA K F σ as vs → as.length = vs.length
  | _, _, .nil => rfl
  | _, _, .val _ b => congrArg Nat.succ b.length
  | _, _, .plc _ b => congrArg Nat.succ b.length
theorem AgA.val_at {K : PySem.W.Frag} {F : Hp} {σ : L2.St} {d : T} {v : V} : ∀ {as : List Ag} {vs : List V} {m : Nat}, AgA K F σ as vs → as[m]? = some (.val d) → vs[m]? = some v → Rp K F v d
  | _, _, _, .nil, h, _ => by simp at h
  | _, _, 0, .val a b, h1, h2 => by simp at h1 h2; subst h1 h2; exact a
  | _, _, 0, .plc a b, h1, h2 => by simp at h1
  | _, _, m + 1, .val a b, h1, h2 => AgA.val_at (m := m) b (by simpa using h1) (by simpa using h2)
  | _, _, m + 1, .plc a b, h1, h2 => AgA.val_at (m := m) b (by simpa using h1) (by simpa using h2)
theorem AgA.plc_at {K : PySem.W.Frag} {F : Hp} {σ : L2.St} {i : Nat} {v : V} : ∀ {as : List Ag} {vs : List V} {m : Nat}, AgA K F σ as vs → as[m]? = some (.plc i) → vs[m]? = some v → σ[i]? = some (some v)
  | _, _, _, .nil, h, _ => by simp at h
  | _, _, 0, .val a b, h1, h2 => by simp at h1
  | _, _, 0, .plc a b, h1, h2 => by simp at h1 h2; subst h1 h2; exact a
  | _, _, m + 1, .val a b, h1, h2 => AgA.plc_at (m := m) b (by simpa using h1) (by simpa using h2)
  | _, _, m + 1, .plc a b, h1, h2 => AgA.plc_at (m := m) b (by simpa using h1) (by simpa using h2)
section
variable {K : PySem.W.Frag} {F F' H H' : Hp} {τ τc τc' : Sls} {σ : L2.St} {as : List Ag} {vs : List V}
/-- the callee's roots are the caller's -/
theorem parm_root (k : Ok K F τ σ H) (ha : AgA K F σ as vs) (hp : parm τ as = some τc) {m : Nat} {p : Addr} (r : RootAt τc (vs.map some) m p) : ∃ i, as[m]? = some (.plc i) ∧ RootAt τ σ i p ∧ ∃ d, τc[m]? = some (.ln d) := by
  obtain ⟨s, h1, h2, h3⟩ := r
  obtain ⟨a, e1, e2⟩ := parm_get hp h1
  cases a with
  | val d => cases e2; cases h2
  | plc i =>
    rw [List.getElem?_map] at h3
    obtain ⟨v, hv, h3⟩ := Option.map_eq_some_iff.mp h3
    cases h3
    have hσ := ha.plc_at e1 hv
    simp only [agS] at e2
    split at e2 <;> rename_i ht
    · cases e2; cases h2
    · cases e2; exact ⟨i, e1, ⟨_, ht, rfl, hσ⟩, _, h1⟩
    · cases e2; exact ⟨i, e1, ⟨_, ht, rfl, hσ⟩, _, h1⟩
    · cases e2
theorem parm_isRoot (k : Ok K F τ σ H) (ha : AgA K F σ as vs) (hp : parm τ as = some τc) {p : Addr} (r : IsRoot τc (vs.map some) p) : IsRoot τ σ p :=
  let ⟨_, r⟩ := r; let ⟨i, _, q, _⟩ := parm_root k ha hp r; ⟨i, q⟩
theorem parm_ok (k : Ok K F τ σ H) (ha : AgA K F σ as vs) (hn : nodupN (plcs as) = true) (hp : parm τ as = some τc) : Ok K F τc (vs.map some) H := by
  refine ⟨k.sub, ?_, fun m s x h1 h2 => ?_, fun m n p r1 r2 => ?_⟩
  · rw [parm_length hp, List.length_map, ha.length]
  · obtain ⟨a, e1, e2⟩ := parm_get hp h1
    rw [List.getElem?_map] at h2
    obtain ⟨v, hv, h2⟩ := Option.map_eq_some_iff.mp h2
    subst h2
    cases a with
    | val d => cases e2; exact ⟨v, rfl, ha.val_at e1 hv⟩
    | plc i =>
      have hσ := ha.plc_at e1 hv
      simp only [agS] at e2
      split at e2 <;> rename_i ht
      · cases e2; exact k.sl i _ _ ht hσ
      · cases e2; have q := k.sl i _ _ ht hσ; exact q
      · cases e2; exact k.sl i _ _ ht hσ
      · cases e2
  · obtain ⟨i, a1, b1, _⟩ := parm_root k ha hp r1
    obtain ⟨j, a2, b2, _⟩ := parm_root k ha hp r2
    have e := k.ne i j p b1 b2
    subst e
    exact plcs_inj hn a1 a2
theorem unS_root {j : Nat} {s : Sl} : (unS as τc' j s).isRoot = s.isRoot := by
  unfold unS
  split <;> rfl
theorem unparm_get {j : Nat} : (unparm τ as τc')[j]? = (τ[j]?).map (unS as τc' j) := by
  unfold unparm
  rw [mapI_get, Nat.zero_add]
theorem unparm_rootAt {j : Nat} {p : Addr} : RootAt (unparm τ as τc') σ j p ↔ RootAt τ σ j p := by
  constructor
  · rintro ⟨s, h1, h2, h3⟩
    rw [unparm_get] at h1
    obtain ⟨s', e, h1⟩ := Option.map_eq_some_iff.mp h1
    subst h1
    rw [unS_root] at h2
    exact ⟨s', e, h2, h3⟩
  · rintro ⟨s, h1, h2, h3⟩
    exact ⟨unS as τc' j s, by rw [unparm_get, h1]; rfl, by rw [unS_root]; exact h2, h3⟩
theorem unparm_ok (k : Ok K F τ σ H) (ha : AgA K F σ as vs) (hn : nodupN (plcs as) = true) (hp : parm τ as = some τc) (k' : Ok K F' τc' (vs.map some) H') (s : Stp τc (vs.map some) H F τc' (vs.map some) H' F') :
    Ok K F' (unparm τ as τc') σ H' ∧ Stp τ σ H F (unparm τ as τc') σ H' F' := by
  have root : ∀ {j : Nat} {sl : Sl} {p : Addr} {d : T}, τ[j]? = some sl → sl.isRoot = true → σ[j]? = some (some (.ref p)) → F p = none → Own K F H p d →
      (∀ d', findP j as τc' = some d' → F' p = none ∧ Own K F' H' p d') ∧ (findP j as τc' = none → F' p = none ∧ Own K F' H' p d) := fun {j sl p d} h1 h2 h3 h4 h5 => by
    refine ⟨fun d' e => ?_, fun e => ?_⟩
    · obtain ⟨m, e1, e2⟩ := findP_some e
      have hm : m < vs.length := by rw [← ha.length]; exact (List.getElem?_eq_some_iff.mp e1).1
      have hv : vs[m]? = some vs[m] := List.getElem?_eq_getElem hm
      have q := ha.plc_at e1 hv
      rw [h3] at q
      have q' := Option.some.inj (Option.some.inj q)
      obtain ⟨p', e3, e4, e5⟩ := k'.sl m _ (some vs[m]) e2 (by rw [List.getElem?_map, hv]; rfl)
      rw [← q'] at e3
      cases e3
      exact ⟨e4, e5⟩
    · have nr : ¬ IsRoot τc (vs.map some) p := fun ⟨m, r⟩ => by
        obtain ⟨i, a1, b1, d1, c1⟩ := parm_root k ha hp r
        have ei := k.ne i j p b1 ⟨sl, h1, h2, h3⟩
        subst ei
        obtain ⟨⟨d2, c2⟩, _⟩ := s.ln m d1 c1
        have z := findP_there a1 c2
        rw [e] at z
        cases z
      obtain ⟨o, ho⟩ := h5.there
      have hk := s.keep p o ho nr
      refine ⟨?_, h5.mono s.fr (hk.trans ho.symm)⟩
      cases q : F' p with
      | none => rfl
      | some u =>
        rcases s.new p u q with z | z | z
        · rw [h4] at z; cases z
        · rw [ho] at z; cases z
        · exact absurd z nr
  refine ⟨⟨k'.sub, by unfold unparm; rw [mapI_length]; exact k.len, fun j sl x h1 h2 => ?_, fun i j p r1 r2 => k.ne i j p (unparm_rootAt.mp r1) (unparm_rootAt.mp r2)⟩,
    ⟨fun b o h n => s.keep b o h fun z => n (parm_isRoot k ha hp z), s.dom, s.fr, fun b o h => (s.new b o h).imp id fun z => z.imp id fun z => parm_isRoot k ha hp z, fun p ⟨j, r⟩ => .inl ⟨j, unparm_rootAt.mp r⟩, fun j d h => ?_⟩⟩
  · rw [unparm_get] at h1
    obtain ⟨s0, e0, h1⟩ := Option.map_eq_some_iff.mp h1
    have q := k.sl j s0 x e0 h2
    subst h1
    cases s0 with
    | no => exact trivial
    | fr d =>
      obtain ⟨v, e, r⟩ := q
      exact ⟨v, e, r.mono s.fr⟩
    | ow d =>
      obtain ⟨p, e, a, b⟩ := q
      subst e
      obtain ⟨g1, g2⟩ := root e0 rfl h2 a b
      unfold unS
      cases e1 : findP j as τc' with
      | none => exact ⟨p, rfl, g2 e1⟩
      | some d' => exact ⟨p, rfl, g1 d' e1⟩
    | ln d =>
      obtain ⟨p, e, a, b⟩ := q
      subst e
      obtain ⟨g1, g2⟩ := root e0 rfl h2 a b
      unfold unS
      cases e1 : findP j as τc' with
      | none => exact ⟨p, rfl, g2 e1⟩
      | some d' => exact ⟨p, rfl, g1 d' e1⟩
  · refine ⟨?_, rfl⟩
    rw [unparm_get, h]
    show ∃ d', some (unS as τc' j (.ln d)) = some (.ln d')
    unfold unS
    cases findP j as τc' with
    | none => exact ⟨d, rfl⟩
    | some d' => exact ⟨d', rfl⟩
end
theorem s_call {K : PySem.W.Frag} {ta : TA} {n : Nat} {f : FnS} {fa : M (List Ag)} {E : XK} (hl : ∀ {as τ τ'}, fa τ = some (as, τ') → as.length = n) (ha : SAC K ta fa) : SE K (tCall (spT K n f) [] E ta) (callE f fa) := by
  intro τ τ' res σ H F Q e k c
  unfold callE at e
  obtain ⟨p, h1, e⟩ := Option.bind_eq_some_iff.mp e
  split at e
  · rename_i hn
    obtain ⟨τc, h2, e⟩ := Option.bind_eq_some_iff.mp e
    obtain ⟨q, h3, e⟩ := Option.map_eq_some_iff.mp e
    cases e
    refine ha τ p.2 p.1 σ H F _ h1 k fun vs H1 F1 k1 s1 a1 => ?_
    rw [List.append_nil]
    refine ⟨by rw [← a1.length]; exact hl h1, F1, τc, q.1, q.2, parm_ok k1 a1 hn h2, fun s hs => ?_, h3, fun v H' F' k' s' ro => ?_⟩
    · obtain ⟨m, hm⟩ := List.getElem?_of_mem hs
      obtain ⟨a, _, e2⟩ := parm_get h2 hm
      exact agS_par e2
    · obtain ⟨k2, s2⟩ := unparm_ok k1 a1 hn h2 k' s'
      refine c v H' F' k2 (s1.trans s2) (ROk.back s1 ?_)
      rcases ro with ⟨e, h⟩ | ⟨e, p', h1, h2', h3, h4, h5⟩
      · exact .inl ⟨e, h⟩
      · have h6 : H1 p' = none := by
          rcases h4 with z | z
          · exact z
          · obtain ⟨m, r⟩ := z
            obtain ⟨i, _, _, d, hd⟩ := parm_root k1 a1 h2 r
            obtain ⟨⟨d', hd'⟩, _⟩ := s'.ln m d hd
            obtain ⟨_, _, _, hv⟩ := r
            exact absurd ⟨m, _, hd', rfl, hv⟩ h3
        refine .inr ⟨e, p', h1, h2', fun z => ?_, .inl h6, h5⟩
        obtain ⟨j, r⟩ := z
        obtain ⟨o, eo⟩ := k1.rootH ⟨j, unparm_rootAt.mp r⟩
        rw [h6] at eo
        cases eo
  · cases e
end TR

namespace TR
open PySem L2

structure ES (X : Cx) (st : Stmt) (ts : TS) (g : Sls → Option Out) : Prop where
  pe : PS X st ts
  s : SS X.K ts g
structure EL (X : Cx) (st : List Stmt) (ts : TS) (g : Sls → Option Out) : Prop where
  pe : PSs X st ts
  s : SS X.K ts g

/-! ### blocks -/
def skS : Sls → Option Out := fun τ => some (.nx τ)
def sqS (f g : Sls → Option Out) : Sls → Option Out := fun τ => (f τ).bind fun o => match o with
  | .nx τ1 => g τ1
  | o => some o
def bkS : Sls → Option Out := fun τ => some (.bk τ)
def ctS : Sls → Option Out := fun τ => some (.ct τ)
def ifS (c : M Bool) (f g : Sls → Option Out) : Sls → Option Out := fun τ => (c τ).bind fun p => if p.1 = true then f p.2 else g p.2
def exS (f : M R) : Sls → Option Out := fun τ => (f τ).map fun p => .nx p.2
def rtS (f : M R) : Sls → Option Out := fun τ => (f τ).map fun p => .rt p.1 p.2
def rtN : Sls → Option Out := fun τ => some (.rt ⟨.non, false⟩ τ)
/-- a name handed back: an own root goes with it -/
def mvS (i : Nat) : Sls → Option Out := fun τ => match τ[i]? with
  | some (.fr d) => some (.rt ⟨d, false⟩ τ)
  | some (.ow d) => some (.rt ⟨d, true⟩ (τ.set i .no))
  | _ => none
section
variable {K : PySem.W.Frag}
theorem s_seq {t u : TS} {f g : Sls → Option Out} (hf : SS K t f) (hg : SS K u g) : SS K (tSeq t u) (sqS f g) := by
  intro τ out σ H F D e k c
  unfold sqS at e
  obtain ⟨o, h1, e⟩ := Option.bind_eq_some_iff.mp e
  refine hf τ o σ H F _ h1 k ?_
  cases o with
  | nx τ1 => exact fun σ' H' F' k' s' => hg τ1 out σ' H' F' D e k' (c.after s')
  | bk τ1 => cases e; exact c
  | ct τ1 => cases e; exact c
  | rt r τ1 => cases e; exact c
theorem s_skip : SS K tNext skS := by
  intro τ out σ H F D e k c
  cases e
  exact c σ H F k .refl
theorem s_bk : SS K tBreak bkS := by
  intro τ out σ H F D e k c
  cases e
  exact c σ H F k .refl
theorem s_ct : SS K tCont ctS := by
  intro τ out σ H F D e k c
  cases e
  exact c σ H F k .refl
theorem s_if {tc : TT} {t u : TS} {fc : M Bool} {f g : Sls → Option Out} (hc : SB K tc fc) (hf : SS K t f) (hg : SS K u g) : SS K (tIfS tc t u) (ifS fc f g) := by
  intro τ out σ H F D e k c
  unfold ifS at e
  obtain ⟨p, h1, e⟩ := Option.bind_eq_some_iff.mp e
  refine hc τ p.2 p.1 σ H F _ h1 k fun H' F' k' s' => ?_
  by_cases hp : p.1 = true
  · rw [if_pos hp] at e ⊢
    exact hf p.2 out σ H' F' D e k' (c.after s')
  · rw [if_neg hp] at e ⊢
    exact hg p.2 out σ H' F' D e k' (c.after s')
theorem s_expr {te : TE} {f : M R} (h : SE K te f) : SS K (tDrop te) (exS f) := by
  intro τ out σ H F D e k c
  unfold exS at e
  obtain ⟨p, h1, e⟩ := Option.map_eq_some_iff.mp e
  cases e
  exact h τ p.2 p.1 σ H F _ h1 k fun v H' F' k' s' _ => c σ H' F' k' s'
theorem s_ret {te : TE} {f : M R} (h : SE K te f) : SS K (tRet te) (rtS f) := by
  intro τ out σ H F D e k c
  unfold rtS at e
  obtain ⟨p, h1, e⟩ := Option.map_eq_some_iff.mp e
  cases e
  exact h τ p.2 p.1 σ H F _ h1 k fun v H' F' k' s' q => c v σ H' F' k' s' q
theorem s_retN : SS K tRetN rtN := by
  intro τ out σ H F D e k c
  cases e
  exact c _ σ H F k .refl (.inl ⟨rfl, .non⟩)
theorem Ok.drop {F H : Hp} {τ : Sls} {σ : L2.St} (k : Ok K F τ σ H) (i : Nat) : Ok K F (τ.set i .no) σ H := by
  refine ⟨k.sub, by rw [List.length_set]; exact k.len, fun j s x h1 h2 => ?_, fun j l q r1 r2 => k.ne j l q (rootAt_set rfl r1).2 (rootAt_set rfl r2).2⟩
  by_cases q : i = j
  · subst q
    by_cases hl : i < τ.length
    · rw [List.getElem?_set_self hl] at h1
      cases h1
      trivial
    · rw [List.getElem?_eq_none (by simpa using hl)] at h1
      cases h1
  · rw [List.getElem?_set_ne q] at h1
    exact k.sl j s x h1 h2
theorem s_move {i : Nat} : SS K (tRet (tVar i)) (mvS i) := by
  intro τ out σ H F D e k c
  unfold mvS at e
  split at e
  · rename_i d e1
    cases e
    have hi : i < σ.length := by rw [← k.len]; exact (List.getElem?_eq_some_iff.mp e1).1
    have hx : σ[i]? = some σ[i] := List.getElem?_eq_getElem hi
    obtain ⟨v, e, r⟩ := k.sl i _ _ e1 hx
    rw [e] at hx
    exact ⟨v, hx, c v σ H F k .refl (.inl ⟨rfl, r⟩)⟩
  · rename_i d e1
    cases e
    have hl : i < τ.length := (List.getElem?_eq_some_iff.mp e1).1
    have hi : i < σ.length := by rw [← k.len]; exact hl
    have hx : σ[i]? = some σ[i] := List.getElem?_eq_getElem hi
    obtain ⟨p, e, a, b⟩ := k.sl i _ _ e1 hx
    rw [e] at hx
    have ri : RootAt τ σ i p := ⟨_, e1, rfl, hx⟩
    refine ⟨_, hx, c (.ref p) σ H F (k.drop i) ⟨fun _ _ h _ => h, fun _ o h => ⟨o, h⟩, fun _ _ h => h, fun _ _ h => .inl h, fun q ⟨j, r⟩ => .inl ⟨j, (rootAt_set rfl r).2⟩, fun j d' h => ⟨⟨d', ?_⟩, rfl⟩⟩
      (.inr ⟨rfl, p, rfl, a, fun ⟨j, r⟩ => (rootAt_set rfl r).1 (k.ne j i p (rootAt_set rfl r).2 ri), .inr ⟨i, ri⟩, b⟩)⟩
    have q : i ≠ j := fun z => by subst z; rw [e1] at h; cases h
    rw [List.getElem?_set_ne q]
    exact h
  · cases e
end
end TR

namespace TR
open PySem L2
section
variable {K : PySem.W.Frag} {F H F' H' : Hp} {τ τ' : Sls} {σ : L2.St}

/-! ### a slot is bound -/
def bnd (τ : Sls) (i : Nat) (r : R) : Option Sls := match τ[i]? with
  | some (.ln _) => none
  | some _ => some (τ.set i (if r.o = true then .ow r.d else .fr r.d))
  | none => none
theorem rootAt_set2 {i j : Nat} {s : Sl} {v : V} {p : Addr} (hl : i < τ.length) (he : τ.length = σ.length) (r : RootAt (τ.set i s) (σ.set i (some v)) j p) : (j = i ∧ s.isRoot = true ∧ v = .ref p) ∨ (j ≠ i ∧ RootAt τ σ j p) := by
  obtain ⟨s', h1, h2, h3⟩ := r
  by_cases q : i = j
  · subst q
    rw [List.getElem?_set_self hl] at h1
    rw [List.getElem?_set_self (by omega)] at h3
    cases h1
    cases h3
    exact .inl ⟨rfl, h2, rfl⟩
  · rw [List.getElem?_set_ne q] at h1 h3
    exact .inr ⟨fun e => q e.symm, s', h1, h2, h3⟩
/-- the name's store: the old state's step s, the value's result -/
theorem bnd_ok {τ0 : Sls} {σ0 : L2.St} {H0 F0 : Hp} {i : Nat} {v : V} {r : R} (k : Ok K F τ σ H) (s : Stp τ0 σ0 H0 F0 τ σ H F) (q : ROk K F H τ σ τ0 σ0 H0 v r) (e : bnd τ i r = some τ') :
    Ok K F τ' (σ.set i (some v)) H ∧ Stp τ0 σ0 H0 F0 τ' (σ.set i (some v)) H F := by
  have hl : i < τ.length ∧ (∀ d, τ[i]? ≠ some (.ln d)) ∧ τ' = τ.set i (if r.o = true then .ow r.d else .fr r.d) := by
    unfold bnd at e
    split at e
    · cases e
    · rename_i s' h1 h2
      cases e
      exact ⟨(List.getElem?_eq_some_iff.mp h2).1, fun d z => h1 d (Option.some.inj (h2.symm.trans z)), rfl⟩
    · cases e
  obtain ⟨hl, hln, e⟩ := hl
  have hσ : i < σ.length := by rw [← k.len]; exact hl
  refine ⟨⟨k.sub, by rw [e, List.length_set, List.length_set]; exact k.len, fun j sl x h1 h2 => ?_, fun a b p r1 r2 => ?_⟩, ⟨s.keep, s.dom, s.fr, s.new, fun p ⟨j, rj⟩ => ?_, fun j d h => ?_⟩⟩
  · subst e
    by_cases hj : i = j
    · subst hj
      rw [List.getElem?_set_self hl] at h1
      rw [List.getElem?_set_self hσ] at h2
      cases h1
      cases h2
      rcases q with ⟨e, q⟩ | ⟨e, p, rfl, q1, q2, q3, q4⟩
      · rw [e, if_neg Bool.false_ne_true]
        exact ⟨v, rfl, q⟩
      · rw [e, if_pos rfl]
        exact ⟨p, rfl, q1, q4⟩
    · rw [List.getElem?_set_ne hj] at h1 h2
      exact k.sl j sl x h1 h2
  · subst e
    have own : ∀ {p : Addr}, (if r.o = true then Sl.ow r.d else Sl.fr r.d).isRoot = true → v = .ref p → ¬ IsRoot τ σ p := fun {p} z1 z2 => by
      rcases q with ⟨e, q⟩ | ⟨e, p', e2, q1, q2, q3, q4⟩
      · rw [e, if_neg Bool.false_ne_true] at z1; cases z1
      · rw [e2] at z2; cases z2; exact q2
    rcases rootAt_set2 hl k.len r1 with ⟨a1, a2, a3⟩ | ⟨a1, a2⟩ <;> rcases rootAt_set2 hl k.len r2 with ⟨b1, b2, b3⟩ | ⟨b1, b2⟩
    · rw [a1, b1]
    · exact absurd ⟨b, b2⟩ (own a2 a3)
    · exact absurd ⟨a, a2⟩ (own b2 b3)
    · exact k.ne a b p a2 b2
  · subst e
    rcases rootAt_set2 hl k.len rj with ⟨a1, a2, a3⟩ | ⟨a1, a2⟩
    · rcases q with ⟨e, q⟩ | ⟨e, p', e2, q1, q2, q3, q4⟩
      · rw [e, if_neg Bool.false_ne_true] at a2; cases a2
      · rw [e2] at a3; cases a3; exact q3.symm
    · exact s.rt p ⟨j, a2⟩
  · subst e
    obtain ⟨⟨d', h1⟩, h2⟩ := s.ln j d h
    have ne : i ≠ j := fun z => by subst z; exact hln d' h1
    rw [List.getElem?_set_ne ne, List.getElem?_set_ne ne]
    exact ⟨⟨d', h1⟩, h2⟩
def asgS (i : Nat) (f : M R) : Sls → Option Out := fun τ => (f τ).bind fun p => (bnd p.2 i p.1).map .nx
theorem s_asg {te : TE} {f : M R} {i : Nat} (h : SE K te f) : SS K (tAsg te (gName i)) (asgS i f) := by
  intro τ out σ H F D e k c
  unfold asgS at e
  obtain ⟨p, h1, e⟩ := Option.bind_eq_some_iff.mp e
  obtain ⟨τ1, h2, e⟩ := Option.map_eq_some_iff.mp e
  cases e
  refine h τ p.2 p.1 σ H F _ h1 k fun v H' F' k' s' q => ?_
  obtain ⟨k2, s2⟩ := bnd_ok k' s' q h2
  exact c _ H' F' k2 s2

/-! ### targets, of what is laid down -/
/-- the slots that it binds are among L -/
def SG (K : PySem.W.Frag) (L : List Nat) (tg : TG) (g : T → Sls → Option Sls) : Prop := ∀ (d : T) (v : V) (τ τ' : Sls) (σ : L2.St) (H F : Hp) (Q : L2.St → Hp → Prop), g d τ = some τ' → Ok K F τ σ H → Rp K F v d →
  (∀ σ', Ok K F τ' σ' H → Stp τ σ H F τ' σ' H F → σ'.length = σ.length → (∀ j, j ∉ L → σ'[j]? = σ[j]?) → Q σ' H) → tg v σ H Q
def gN (i : Nat) : T → Sls → Option Sls := fun d τ => bnd τ i ⟨d, false⟩
theorem s_gN {i : Nat} : SG K [i] (gName i) (gN i) := by
  intro d v τ τ' σ H F Q e k r c
  obtain ⟨k2, s2⟩ := bnd_ok (τ0 := τ) (σ0 := σ) (H0 := H) (F0 := F) k .refl (.inl ⟨rfl, r⟩) e
  refine c _ k2 s2 (by rw [List.length_set]) fun j hj => ?_
  rw [List.getElem?_set_ne (fun z => hj (by simp [z]))]
structure SGs (K : PySem.W.Frag) (L : List Nat) (tg : TGs) (n : Nat) (g : List T → Sls → Option Sls) : Prop where
  len : ∀ ds τ τ', g ds τ = some τ' → ds.length = n
  run : ∀ (ds : List T) (vs : List V) (τ τ' : Sls) (σ : L2.St) (H F : Hp) (Q : L2.St → Hp → Prop), g ds τ = some τ' → Ok K F τ σ H → RpA K F vs ds →
    (∀ σ', Ok K F τ' σ' H → Stp τ σ H F τ' σ' H F → σ'.length = σ.length → (∀ j, j ∉ L → σ'[j]? = σ[j]?) → Q σ' H) → tg vs σ H Q
def gsNil : List T → Sls → Option Sls := fun ds τ => match ds with
  | [] => some τ
  | _ => none
def gsCons (f : T → Sls → Option Sls) (g : List T → Sls → Option Sls) : List T → Sls → Option Sls := fun ds τ => match ds with
  | d :: r => (f d τ).bind fun τ1 => g r τ1
  | [] => none
def gT (g : List T → Sls → Option Sls) : T → Sls → Option Sls := fun d τ => match d with
  | .tup ds => g ds τ
  | _ => none
theorem s_gsNil : SGs K [] gNil 0 gsNil := by
  refine ⟨fun ds τ τ' e => ?_, fun ds vs τ τ' σ H F Q e k r c => ?_⟩
  · unfold gsNil at e
    split at e
    · rfl
    · cases e
  · unfold gsNil at e
    split at e
    · cases e
      cases r
      exact ⟨rfl, c σ k .refl rfl fun _ _ => rfl⟩
    · cases e
theorem s_gsCons {L L' : List Nat} {n : Nat} {t : TG} {u : TGs} {f : T → Sls → Option Sls} {g : List T → Sls → Option Sls} (h : SG K L t f) (h' : SGs K L' u n g) : SGs K (L ++ L') (gCons t u) (n + 1) (gsCons f g) := by
  refine ⟨fun ds τ τ' e => ?_, fun ds vs τ τ' σ H F Q e k r c => ?_⟩
  · unfold gsCons at e
    split at e
    · obtain ⟨τ1, h1, e⟩ := Option.bind_eq_some_iff.mp e
      exact congrArg Nat.succ (h'.len _ _ _ e)
    · cases e
  · unfold gsCons at e
    split at e
    · obtain ⟨τ1, h1, e⟩ := Option.bind_eq_some_iff.mp e
      cases r with
      | cons a b =>
        refine ⟨_, _, rfl, h _ _ τ τ1 σ H F _ h1 k a fun σ1 k1 s1 l1 o1 => h'.run _ _ τ1 τ' σ1 H F Q e k1 b fun σ2 k2 s2 l2 o2 => ?_⟩
        refine c σ2 k2 (s1.trans s2) (l2.trans l1) fun j hj => ?_
        rw [List.mem_append, not_or] at hj
        rw [o2 j hj.2, o1 j hj.1]
    · cases e
theorem s_gT {L : List Nat} {n : Nat} {t : TGs} {g : List T → Sls → Option Sls} (h : SGs K L t n g) : SG K L (gTup K n t) (gT g) := by
  intro d v τ τ' σ H F Q e k r c
  unfold gT at e
  split at e
  · cases r with
    | tup h1 a => exact ⟨_, _, rfl, SqT.of (k.sub _ _ h1), by rw [a.length]; exact h.len _ _ _ e, h.run _ _ τ τ' σ H F Q e k a c⟩
  · cases e
end
structure EG (X : Cx) (tg : Expr) (t : TG) (L : List Nat) (g : T → Sls → Option Sls) : Prop where
  pe : PG X tg t
  s : SG X.K L t g
structure EGs (X : Cx) (tg : List Expr) (t : TGs) (L : List Nat) (n : Nat) (g : List T → Sls → Option Sls) : Prop where
  pe : PGs X tg t
  s : SGs X.K L t n g

/-! ### what is walked -/
def Yld (K : PySem.W.Frag) (J : It) (F : Hp) (ds : List T) : Prop := (∀ H, Same F H → J.stop ds.length H) ∧
  ∀ (i : Nat) (d : T) (H F1 : Hp), ds[i]? = some d → Same F F1 → Same F1 H → J.go i H ∧ ∀ x H', J.yld i H x H' → ∃ F2, Grow H F1 H' F2 ∧ Rp K F2 x d
def SI (K : PySem.W.Frag) (wi : TI) (f : M (List T)) : Prop := ∀ (τ τ' : Sls) (ds : List T) (σ : L2.St) (H F : Hp) (R : It → Hp → Prop), f τ = some (ds, τ') → Ok K F τ σ H →
  (∀ J H' F', Ok K F' τ' σ H' → Stp τ σ H F τ' σ H' F' → Yld K J F' ds → R J H') → wi σ H R
structure EI (X : Cx) (tg e : Expr) (wi : TI) (f : M (List T)) : Prop where
  pe : PI X tg e wi
  s : SI X.K wi f
def lstI (f : M T) : M (List T) := fun τ => (f τ).bind fun p => (p.1.seqL).map fun ds => (ds, p.2)
def tupI (f : M T) : M (List T) := fun τ => (f τ).bind fun p => match p.1 with
  | .tup ds => some (ds, p.2)
  | _ => none
theorem s_lstI {K : PySem.W.Frag} {te : TE} {f : M T} (h : SV K te f) : SI K (iList K te) (lstI f) := by
  intro τ τ' ds σ H F R e k c
  unfold lstI at e
  obtain ⟨p, h1, e⟩ := Option.bind_eq_some_iff.mp e
  obtain ⟨ds', h2, e⟩ := Option.map_eq_some_iff.mp e
  cases e
  refine h τ p.2 p.1 σ H F _ h1 k fun v H1 F1 k1 s1 r1 => ?_
  obtain ⟨a, vs, rfl, hq, ra⟩ := Lk.seqL (H := F1) (fun _ _ z => z) (.inl r1) h2
  refine ⟨a, rfl, ⟨vs, k1.sub.seq hq⟩, c _ H1 F1 k1 s1 ⟨fun H2 s2 => ⟨vs, s2.seq hq, by rw [ra.length]; exact Nat.le_refl _⟩, fun i d H2 F2 hi s2 s3 => ?_⟩⟩
  obtain ⟨v, hv, rv⟩ := ra.get hi
  have hq2 : SqL K H2 a vs := s3.seq (s2.seq hq)
  refine ⟨⟨vs, v, hq2, hv⟩, fun x H3 y => ?_⟩
  obtain ⟨e1, e2⟩ := y
  subst e1
  have e3 := e2 vs hq2
  rw [hv] at e3
  cases e3
  exact ⟨F2, .refl s3, rv.mono s2⟩
theorem s_tupI {K : PySem.W.Frag} {te : TE} {f : M T} (h : SV K te f) : SI K (iTup K te) (tupI f) := by
  intro τ τ' ds σ H F R e k c
  unfold tupI at e
  obtain ⟨p, h1, e⟩ := Option.bind_eq_some_iff.mp e
  split at e
  · rename_i ds' h2
    cases e
    refine h τ p.2 p.1 σ H F _ h1 k fun v H1 F1 k1 s1 r1 => ?_
    rw [h2] at r1
    cases r1 with
    | tup hq ra =>
      rename_i a vs
      refine ⟨a, rfl, ⟨vs, SqT.of (k1.sub _ _ hq)⟩, c _ H1 F1 k1 s1 ⟨fun H2 s2 => ⟨vs, SqT.of (s2 _ _ hq), by rw [ra.length]; exact Nat.le_refl _⟩, fun i d H2 F2 hi s2 s3 => ?_⟩⟩
      obtain ⟨v, hv, rv⟩ := ra.get hi
      have hq2 : SqT K H2 a vs := SqT.of (s3 _ _ (s2 _ _ hq))
      refine ⟨⟨vs, v, hq2, hv⟩, fun x H3 y => ?_⟩
      obtain ⟨e1, e2⟩ := y
      subst e1
      have e3 := e2 vs hq2
      rw [hv] at e3
      cases e3
      exact ⟨F2, .refl s3, rv.mono s2⟩
  · cases e
/-- lo, lo + 1, .. -/
def rngT (lo : Int) : Nat → List T
  | 0 => []
  | n + 1 => .int lo :: rngT (lo + 1) n
theorem rngT_length : ∀ (n : Nat) (lo : Int), (rngT lo n).length = n
  | 0, _ => rfl
  | n + 1, lo => congrArg Nat.succ (rngT_length n _)
theorem rngT_get : ∀ (n : Nat) (lo : Int) (i : Nat), i < n → (rngT lo n)[i]? = some (.int (lo + i))
  | 0, _, _, h => absurd h (Nat.not_lt_zero _)
  | n + 1, lo, 0, _ => by simp [rngT]
  | n + 1, lo, i + 1, h => by
    rw [rngT, List.getElem?_cons_succ, rngT_get n (lo + 1) i (by omega)]
    congr 2
    omega
theorem yld_rng {K : PySem.W.Frag} {F : Hp} {lo : Int} {n : Nat} : Yld K (Itr lo n) F (rngT lo n) := by
  refine ⟨fun H _ => Nat.le_of_eq (rngT_length n lo).symm, fun i d H F1 hi s1 s2 => ?_⟩
  have hl : i < n := by
    have := (List.getElem?_eq_some_iff.mp hi).1
    rw [rngT_length] at this
    exact this
  rw [rngT_get n lo i hl] at hi
  cases hi
  refine ⟨hl, fun x H' y => ?_⟩
  obtain ⟨rfl, rfl⟩ := y
  exact ⟨F1, .refl s2, .int _⟩
def rgOk (i : Int) : Bool := Nat.ble i.natAbs 4611686018427387903
theorem rgOk_spec {i : Int} (h : rgOk i = true) : -(2 ^ 62) ≤ i ∧ i < 2 ^ 62 := by
  have h := Nat.le_of_ble_eq_true h
  have e : (2 : Int) ^ 62 = 4611686018427387904 := by decide
  rw [e]
  omega
def rng1 (f : M (List (Sls → Option T))) : M (List T) := fun τ => (f τ).bind fun p => (allRd p.1 p.2).bind fun ds => match ds with
  | [.int j] => if rgOk j then some (rngT 0 j.toNat, p.2) else none
  | _ => none
def rng2 (f : M (List (Sls → Option T))) : M (List T) := fun τ => (f τ).bind fun p => (allRd p.1 p.2).bind fun ds => match ds with
  | [.int i, .int j] => if rgOk i && rgOk j then some (rngT i (j - i).toNat, p.2) else none
  | _ => none
theorem s_rng1 {K : PySem.W.Frag} {ta : TA} {f : M (List (Sls → Option T))} (h : SAO K ta f) : SI K (iRng1 ta) (rng1 f) := by
  intro τ τ' ds σ H F R e k c
  unfold rng1 at e
  obtain ⟨p, h1, e⟩ := Option.bind_eq_some_iff.mp e
  obtain ⟨as, h2, e⟩ := Option.bind_eq_some_iff.mp e
  split at e
  · rename_i j
    split at e
    · rename_i hz
      cases e
      have hz := rgOk_spec hz
      refine h τ p.2 p.1 σ H F _ h1 k fun vs H1 F1 k1 s1 l1 => ?_
      cases l1 _ _ _ _ k1 .refl h2 with
      | cons a b =>
        cases b
        rw [a.int]
        exact ⟨j, rfl, hz.1, hz.2, c _ H1 F1 k1 s1 yld_rng⟩
    · cases e
  · cases e
theorem s_rng2 {K : PySem.W.Frag} {ta : TA} {f : M (List (Sls → Option T))} (h : SAO K ta f) : SI K (iRng2 ta) (rng2 f) := by
  intro τ τ' ds σ H F R e k c
  unfold rng2 at e
  obtain ⟨p, h1, e⟩ := Option.bind_eq_some_iff.mp e
  obtain ⟨as, h2, e⟩ := Option.bind_eq_some_iff.mp e
  split at e
  · rename_i i j
    split at e
    · rename_i hz
      cases e
      have hz := And.intro (rgOk_spec (Bool.and_eq_true_iff.mp hz).1) (rgOk_spec (Bool.and_eq_true_iff.mp hz).2)
      refine h τ p.2 p.1 σ H F _ h1 k fun vs H1 F1 k1 s1 l1 => ?_
      cases l1 _ _ _ _ k1 .refl h2 with
      | cons a b =>
        cases b with
        | cons b b' =>
          cases b'
          rw [a.int, b.int]
          exact ⟨i, j, rfl, ⟨hz.1.1, hz.1.2, hz.2.1, hz.2.2⟩, c _ H1 F1 k1 s1 yld_rng⟩
    · cases e
  · cases e

/-! ### for -/
def loopS (g : T → Sls → Option Sls) (body : Sls → Option Out) : List T → Sls → Option Out
  | [], τ => some (.nx τ)
  | d :: r, τ => (g d τ).bind fun τ1 => (body τ1).bind fun o => match o with
    | .nx τ2 => loopS g body r τ2
    | .ct τ2 => loopS g body r τ2
    | .bk τ2 => some (.nx τ2)
    | .rt x τ2 => some (.rt x τ2)
def forS (it : M (List T)) (g : T → Sls → Option Sls) (body : Sls → Option Out) : Sls → Option Out := fun τ => (it τ).bind fun p => loopS g body p.1 p.2
theorem s_for {K : PySem.W.Frag} {wi : TI} {t : TG} {L : List Nat} {tb : TS} {it : M (List T)} {g : T → Sls → Option Sls} {body : Sls → Option Out} (hi : SI K wi it) (hg : SG K L t g) (hb : SS K tb body) : SS K (tFor wi t tb) (forS it g body) := by
  intro τ out σ H F D e k c
  unfold forS at e
  obtain ⟨p, h1, e⟩ := Option.bind_eq_some_iff.mp e
  obtain ⟨ds, τ1⟩ := p
  refine hi τ τ1 ds σ H F _ h1 k fun J H1 F1 k1 s1 y1 => ?_
  refine ⟨fun i m σ' H' => m = ds.length - i ∧ i ≤ ds.length ∧ ∃ τ' F', Ok K F' τ' σ' H' ∧ Stp τ σ H F τ' σ' H' F' ∧ Same F1 F' ∧ loopS g body (ds.drop i) τ' = some out, ⟨_, rfl, Nat.zero_le _, τ1, F1, k1, s1, (fun _ _ z => z), e⟩, ?_⟩
  rintro i m σ' H' ⟨rfl, hle, τ', F', k', s', sF, e'⟩
  by_cases hlt : i < ds.length
  · have hd : ds[i]? = some ds[i] := List.getElem?_eq_getElem hlt
    rw [List.drop_eq_getElem_cons hlt, loopS] at e'
    obtain ⟨τ2, h2, e'⟩ := Option.bind_eq_some_iff.mp e'
    obtain ⟨o, h3, e'⟩ := Option.bind_eq_some_iff.mp e'
    obtain ⟨go, yl⟩ := y1.2 i _ H' F' hd sF k'.sub
    refine .inr ⟨go, fun σ3 H3 => ∃ τ3 F3, Ok K F3 τ3 σ3 H3 ∧ Stp τ σ H F τ3 σ3 H3 F3 ∧ Same F1 F3 ∧ loopS g body (ds.drop (i + 1)) τ3 = some out,
      fun σ3 H3 ⟨τ3, F3, q1, q2, q3, q4⟩ => ⟨ds.length - (i + 1), by omega, rfl, hlt, τ3, F3, q1, q2, q3, q4⟩, fun x H2 y => ?_⟩
    obtain ⟨F2, g2, r2⟩ := yl x H2 y
    refine hg _ x τ' τ2 σ' H2 F2 _ h2 (k'.grow g2) r2 fun σ4 k4 s4 _ _ => ?_
    have st : Stp τ σ H F τ2 σ4 H2 F2 := s'.trans (g2.step.trans s4)
    refine hb τ2 o σ4 H2 F2 _ h3 k4 ?_
    cases o with
    | nx τ5 => exact fun σ5 H5 F5 k5 s5 => ⟨τ5, F5, k5, st.trans s5, sF.trans (g2.ff.trans s5.fr), e'⟩
    | ct τ5 => exact fun σ5 H5 F5 k5 s5 => ⟨τ5, F5, k5, st.trans s5, sF.trans (g2.ff.trans s5.fr), e'⟩
    | bk τ5 =>
      cases e'
      exact fun σ5 H5 F5 k5 s5 => c σ5 H5 F5 k5 (st.trans s5)
    | rt r τ5 =>
      cases e'
      exact fun v σ5 H5 F5 k5 s5 q => c v σ5 H5 F5 k5 (st.trans s5) (q.back st)
  · have hi : i = ds.length := by omega
    subst hi
    rw [List.drop_length] at e'
    cases e'
    exact .inl ⟨y1.1 H' (sF.trans k'.sub), c σ' H' F' k' s'⟩

/-! ### while -/
def whS (c : M Bool) (b : Sls → Option Out) : Nat → Sls → Option Out
  | 0, _ => none
  | n + 1, τ => (c τ).bind fun p => if p.1 = true then (b p.2).bind fun o => match o with
      | .nx τ2 => whS c b n τ2
      | .ct τ2 => whS c b n τ2
      | .bk τ2 => some (.nx τ2)
      | .rt x τ2 => some (.rt x τ2)
    else some (.nx p.2)
theorem s_while {K : PySem.W.Frag} {tc : TT} {tb : TS} {c : M Bool} {b : Sls → Option Out} {n : Nat} (hc : SB K tc c) (hb : SS K tb b) : SS K (tWhile tc tb) (whS c b n) := by
  intro τ out σ H F D e k cc
  refine ⟨fun m σ' H' => ∃ τ' F', Ok K F' τ' σ' H' ∧ Stp τ σ H F τ' σ' H' F' ∧ whS c b m τ' = some out, ⟨n, τ, F, k, .refl, e⟩, ?_⟩
  rintro m σ' H' ⟨τ', F', k', s', e'⟩
  cases m with
  | zero => cases e'
  | succ m =>
    rw [whS] at e'
    obtain ⟨p, h1, e'⟩ := Option.bind_eq_some_iff.mp e'
    refine hc τ' p.2 p.1 σ' H' F' _ h1 k' fun H2 F2 k2 s2 => ?_
    have st := s'.trans s2
    by_cases hp : p.1 = true
    · rw [if_pos hp] at e' ⊢
      obtain ⟨o, h2, e'⟩ := Option.bind_eq_some_iff.mp e'
      refine ⟨fun σ3 H3 => ∃ τ3 F3, Ok K F3 τ3 σ3 H3 ∧ Stp τ σ H F τ3 σ3 H3 F3 ∧ whS c b m τ3 = some out, fun σ3 H3 q => ⟨m, Nat.lt_succ_self m, q⟩, hb p.2 o σ' H2 F2 _ h2 k2 ?_⟩
      cases o with
      | nx τ5 => exact fun σ5 H5 F5 k5 s5 => ⟨τ5, F5, k5, st.trans s5, e'⟩
      | ct τ5 => exact fun σ5 H5 F5 k5 s5 => ⟨τ5, F5, k5, st.trans s5, e'⟩
      | bk τ5 =>
        cases e'
        exact fun σ5 H5 F5 k5 s5 => cc σ5 H5 F5 k5 (st.trans s5)
      | rt r τ5 =>
        cases e'
        exact fun v σ5 H5 F5 k5 s5 q => cc v σ5 H5 F5 k5 (st.trans s5) (q.back st)
    · rw [if_neg hp] at e' ⊢
      cases e'
      exact cc σ' H2 F2 k2 st
end TR

namespace TR
open PySem L2

/-! ### comprehensions -/
def wipeT (own : List Nat) (τ : Sls) : Sls := mapI (fun j s => if own.contains j = true then .no else s) 0 τ
def restT (own : List Nat) (τ0 τ1 : Sls) : Sls := mapI (fun j s => if own.contains j = true then (τ0[j]?).getD .no else s) 0 τ1
def lcL (g : T → Sls → Option Sls) (cnd : M Bool) (elt : M T) (own : List Nat) : List T → Sls → Option (List T × Sls)
  | [], τ => some ([], τ)
  | d :: r, τ => (g d τ).bind fun τ1 => (cnd τ1).bind fun p =>
      if p.1 = true then (elt p.2).bind fun q => (lcL g cnd elt own r (wipeT own q.2)).map fun z => (q.1 :: z.1, z.2)
      else lcL g cnd elt own r (wipeT own p.2)
def lcE (it : M (List T)) (g : T → Sls → Option Sls) (cnd : M Bool) (elt : M T) (own : List Nat) : M R := fun τ =>
  (it τ).bind fun p => (lcL g cnd elt own p.1 (wipeT own p.2)).bind fun q => if q.1.length ≤ sizeLine then some (⟨.lst q.1, true⟩, restT own p.2 q.2) else none
theorem wipe_get {σ : L2.St} {j : Nat} : ∀ {vs : List Nat}, j ∉ vs → (wipe σ vs)[j]? = σ[j]?
  | [], _ => rfl
  | v :: vs, h => by
    rw [List.mem_cons, not_or] at h
    unfold wipe
    rw [List.getElem?_set_ne (fun z => h.1 z.symm)]
    exact wipe_get h.2
theorem wipe_own {σ : L2.St} {j : Nat} {x : V} {vs : List Nat} (h : j ∈ vs) : (wipe σ vs)[j]? ≠ some (some x) := fun z => (wipe_some z).2 h
theorem wipe_eq {σ σ' : L2.St} (hl : σ'.length = σ.length) : ∀ {vs L : List Nat}, (∀ j ∈ L, j ∈ vs) → (∀ j, j ∉ L → σ'[j]? = σ[j]?) → wipe σ' vs = wipe σ vs := fun {vs L} hL ho => by
  have key : ∀ (τ τ' : L2.St), τ'.length = τ.length → ∀ (us : List Nat), (∀ j, j ∉ us → τ'[j]? = τ[j]?) → wipe τ' us = wipe τ us := by
    intro τ τ' hl us
    induction us generalizing τ τ' with
    | nil =>
      intro h
      exact List.ext_getElem? fun j => h j (by simp)
    | cons u us ih =>
      intro h
      show (wipe τ' us).set u none = (wipe τ us).set u none
      have e1 : wipe τ' (u :: us) = wipe (τ'.set u none) us := by
        show (wipe τ' us).set u none = wipe (τ'.set u none) us
        clear ih h hl
        induction us with
        | nil => rfl
        | cons w us ih =>
          show ((wipe τ' us).set w none).set u none = (wipe (τ'.set u none) us).set w none
          rw [← ih]
          by_cases q : w = u
          · subst q; rfl
          · exact List.set_comm _ _ q
      have e2 : wipe τ (u :: us) = wipe (τ.set u none) us := by
        show (wipe τ us).set u none = wipe (τ.set u none) us
        clear ih h hl e1
        induction us with
        | nil => rfl
        | cons w us ih =>
          show ((wipe τ us).set w none).set u none = (wipe (τ.set u none) us).set w none
          rw [← ih]
          by_cases q : w = u
          · subst q; rfl
          · exact List.set_comm _ _ q
      show wipe τ' (u :: us) = wipe τ (u :: us)
      rw [e1, e2]
      refine ih _ _ (by rw [List.length_set, List.length_set]; exact hl) fun j hj => ?_
      by_cases q : u = j
      · subst q
        by_cases hu : u < τ.length
        · rw [List.getElem?_set_self hu, List.getElem?_set_self (by omega)]
        · rw [List.getElem?_eq_none (by simp; omega), List.getElem?_eq_none (by simp; omega)]
      · rw [List.getElem?_set_ne q, List.getElem?_set_ne q]
        exact h j (by simp [hj]; exact fun z => q z.symm)
  exact key σ σ' hl vs fun j hj => ho j fun z => hj (hL j z)
section
variable {K : PySem.W.Frag} {F H F1 H1 F' H' : Hp} {τ τ0 τ1 τ' : Sls} {σ σ0 σ' : L2.St} {own : List Nat}
theorem wipeT_get {j : Nat} : (wipeT own τ)[j]? = (τ[j]?).map fun s => if own.contains j = true then .no else s := by
  unfold wipeT
  rw [mapI_get, Nat.zero_add]
theorem restT_get {j : Nat} : (restT own τ0 τ1)[j]? = (τ1[j]?).map fun s => if own.contains j = true then (τ0[j]?).getD .no else s := by
  unfold restT
  rw [mapI_get, Nat.zero_add]
theorem wipeT_len : (wipeT own τ).length = τ.length := mapI_length _ _ _
theorem wipeT_rootAt {j : Nat} {p : Addr} (r : RootAt (wipeT own τ) (wipe σ own) j p) : j ∉ own ∧ RootAt τ σ j p := by
  obtain ⟨s, h1, h2, h3⟩ := r
  have hj := (wipe_some h3).2
  rw [wipeT_get] at h1
  obtain ⟨s', e, h1⟩ := Option.map_eq_some_iff.mp h1
  have hc : ¬ own.contains j = true := by simpa using hj
  rw [if_neg hc] at h1
  subst h1
  exact ⟨hj, s', e, h2, (wipe_some h3).1⟩
theorem Ok.wipe (k : Ok K F τ σ H) : Ok K F (wipeT own τ) (L2.wipe σ own) H := by
  refine ⟨k.sub, by rw [wipeT_len, wipe_length]; exact k.len, fun j s x h1 h2 => ?_, fun i j p r1 r2 => k.ne i j p (wipeT_rootAt r1).2 (wipeT_rootAt r2).2⟩
  rw [wipeT_get] at h1
  obtain ⟨s', e, h1⟩ := Option.map_eq_some_iff.mp h1
  by_cases hj : j ∈ own
  · rw [if_pos (by simpa using hj)] at h1
    subst h1
    trivial
  · rw [if_neg (by simpa using hj)] at h1
    subst h1
    rw [wipe_get hj] at h2
    exact k.sl j _ x e h2
theorem Stp.wipe (s : Stp (wipeT own τ0) (L2.wipe σ0 own) H F τ1 σ' H1 F1) : Stp (wipeT own τ0) (L2.wipe σ0 own) H F (wipeT own τ1) (L2.wipe σ' own) H1 F1 := by
  refine ⟨s.keep, s.dom, s.fr, s.new, fun p ⟨j, r⟩ => s.rt p ⟨j, (wipeT_rootAt r).2⟩, fun i d h => ?_⟩
  obtain ⟨⟨d', e1⟩, e2⟩ := s.ln i d h
  have hi : i ∉ own := fun z => by
    rw [wipeT_get] at h
    obtain ⟨s', e, h⟩ := Option.map_eq_some_iff.mp h
    rw [if_pos (by simpa using z)] at h
    cases h
  refine ⟨⟨d', ?_⟩, ?_⟩
  · rw [wipeT_get, e1, Option.map_some, if_neg (by simpa using hi)]
  · rw [wipe_get hi]
    exact e2
/-- an object of no slot is changed -/
theorem Ok.mut {D : Addr} {o : HO} (k : Ok K F τ σ H) (hF : F D = none) (nr : ¬ IsRoot τ σ D) : Ok K F τ σ (L2.upd H D o) := by
  refine ⟨fun b u e => by rw [upd_ne (ne_of_none e hF)]; exact k.sub b u e, k.len, fun i s x h1 h2 => ?_, k.ne⟩
  have q := k.sl i s x h1 h2
  cases s with
  | no => trivial
  | fr d => exact q
  | ow d =>
    obtain ⟨p, e, a, b⟩ := q
    have ne : p ≠ D := fun z => nr ⟨i, _, h1, rfl, by rw [h2, e, z]⟩
    exact ⟨p, e, a, b.mono (fun _ _ z => z) (upd_ne ne)⟩
  | ln d =>
    obtain ⟨p, e, a, b⟩ := q
    have ne : p ≠ D := fun z => nr ⟨i, _, h1, rfl, by rw [h2, e, z]⟩
    exact ⟨p, e, a, b.mono (fun _ _ z => z) (upd_ne ne)⟩
theorem Stp.mut {D : Addr} {o : HO} (s : Stp τ σ H F τ1 σ' H1 F1) (hD : H D = none) : Stp τ σ H F τ1 σ' (L2.upd H1 D o) F1 := by
  refine ⟨fun b u e n => by rw [upd_ne (ne_of_none e hD)]; exact s.keep b u e n, fun b u e => ?_, s.fr, s.new, s.rt, s.ln⟩
  rw [upd_ne (ne_of_none e hD)]
  exact s.dom b u e
theorem Stp.free2 (s : Stp τ σ H F τ1 σ' H1 F1) {D : Addr} {o : HO} (hF : F D = none) (hH : H D = some o) (nr : ¬ IsRoot τ σ D) : F1 D = none ∧ H1 D = some o ∧ ¬ IsRoot τ1 σ' D := by
  refine ⟨?_, s.keep D o hH nr, fun z => ?_⟩
  · cases q : F1 D with
    | none => rfl
    | some u =>
      rcases s.new D u q with z | z | z
      · rw [hF] at z; cases z
      · rw [hH] at z; cases z
      · exact absurd z nr
  · rcases s.rt D z with z | z
    · exact nr z
    · rw [hH] at z; cases z
/-- behind the block: its own names as they were ahead of it -/
theorem rest_ok (k : Ok K F1 τ1 σ H1) (k' : Ok K F' τ' (L2.wipe σ own) H') (s : Stp (wipeT own τ1) (L2.wipe σ own) H1 F1 τ' (L2.wipe σ own) H' F') :
    Ok K F' (restT own τ1 τ') σ H' ∧ Stp τ1 σ H1 F1 (restT own τ1 τ') σ H' F' := by
  have hlen : τ'.length = τ1.length := by rw [k'.len, wipe_length, k.len]
  -- what a slot behind the block is
  have at_ : ∀ {j : Nat} {sl : Sl}, (restT own τ1 τ')[j]? = some sl → (j ∈ own ∧ τ1[j]? = some sl) ∨ (j ∉ own ∧ τ'[j]? = some sl) := fun {j sl} h => by
    rw [restT_get] at h
    obtain ⟨s', e, h⟩ := Option.map_eq_some_iff.mp h
    by_cases hj : j ∈ own
    · rw [if_pos (by simpa using hj)] at h
      have hl : j < τ1.length := by
        have := (List.getElem?_eq_some_iff.mp e).1
        omega
      rw [List.getElem?_eq_getElem hl] at h
      exact .inl ⟨hj, by rw [List.getElem?_eq_getElem hl]; exact congrArg some h⟩
    · rw [if_neg (by simpa using hj)] at h
      subst h
      exact .inr ⟨hj, e⟩
  have rootR : ∀ {j : Nat} {p : Addr}, RootAt (restT own τ1 τ') σ j p → (j ∈ own ∧ RootAt τ1 σ j p) ∨ (j ∉ own ∧ RootAt τ' (L2.wipe σ own) j p) := fun {j p} ⟨sl, h1, h2, h3⟩ => by
    rcases at_ h1 with ⟨hj, e⟩ | ⟨hj, e⟩
    · exact .inl ⟨hj, sl, e, h2, h3⟩
    · exact .inr ⟨hj, sl, e, h2, by rw [wipe_get hj]; exact h3⟩
  have nr : ∀ {j : Nat} {p : Addr}, j ∈ own → RootAt τ1 σ j p → ¬ IsRoot (wipeT own τ1) (L2.wipe σ own) p := fun {j p} hj r ⟨i, q⟩ => by
    obtain ⟨hi, q⟩ := wipeT_rootAt q
    exact hi (k.ne i j p q r ▸ hj)
  refine ⟨⟨k'.sub, by unfold restT; rw [mapI_length, k'.len, wipe_length], fun j sl x h1 h2 => ?_, fun i j p r1 r2 => ?_⟩, ⟨fun b o h n => s.keep b o h fun ⟨j, r⟩ => n ⟨j, (wipeT_rootAt r).2⟩, s.dom, s.fr,
    fun b o h => (s.new b o h).imp id fun z => z.imp id fun ⟨j, r⟩ => ⟨j, (wipeT_rootAt r).2⟩, fun p ⟨j, r⟩ => ?_, fun i d h => ⟨?_, rfl⟩⟩⟩
  · rcases at_ h1 with ⟨hj, e⟩ | ⟨hj, e⟩
    · have q := k.sl j sl x e h2
      have own' : ∀ {p : Addr} {d : T}, sl.isRoot = true → x = some (.ref p) → F1 p = none → Own K F1 H1 p d → F' p = none ∧ Own K F' H' p d := fun {p d} z1 z2 z3 z4 => by
        obtain ⟨o, ho⟩ := z4.there
        obtain ⟨f1, f2, _⟩ := s.free2 z3 ho (nr hj ⟨sl, e, z1, by rw [h2, z2]⟩)
        exact ⟨f1, z4.mono s.fr (f2.trans ho.symm)⟩
      cases sl with
      | no => trivial
      | fr d =>
        obtain ⟨v, e, r⟩ := q
        exact ⟨v, e, r.mono s.fr⟩
      | ow d =>
        obtain ⟨p, e, a, b⟩ := q
        exact ⟨p, e, own' rfl e a b⟩
      | ln d =>
        obtain ⟨p, e, a, b⟩ := q
        exact ⟨p, e, own' rfl e a b⟩
    · exact k'.sl j sl x e (by rw [wipe_get hj]; exact h2)
  · have mix : ∀ {i j : Nat}, i ∈ own → RootAt τ1 σ i p → RootAt τ' (L2.wipe σ own) j p → False := fun {i j} hi r q => by
      rcases s.rt p ⟨j, q⟩ with z | z
      · exact nr hi r z
      · obtain ⟨_, _, o⟩ := k.root r
        obtain ⟨u, hu⟩ := o.there
        rw [hu] at z; cases z
    rcases rootR r1 with ⟨hi, a⟩ | ⟨hi, a⟩ <;> rcases rootR r2 with ⟨hj, b⟩ | ⟨hj, b⟩
    · exact k.ne i j p a b
    · exact (mix hi a b).elim
    · exact (mix hj b a).elim
    · exact k'.ne i j p a b
  · rcases rootR r with ⟨hj, a⟩ | ⟨hj, a⟩
    · exact .inl ⟨j, a⟩
    · exact (s.rt p ⟨j, a⟩).imp (fun ⟨i, r⟩ => ⟨i, (wipeT_rootAt r).2⟩) id
  · have hl : i < τ'.length := by
      have := (List.getElem?_eq_some_iff.mp h).1
      omega
    by_cases hi : i ∈ own
    · refine ⟨d, ?_⟩
      rw [restT_get, List.getElem?_eq_getElem hl, Option.map_some, if_pos (by simpa using hi), h]
      rfl
    · obtain ⟨⟨d', e1⟩, _⟩ := s.ln i d (by rw [wipeT_get, h, Option.map_some, if_neg (by simpa using hi)])
      refine ⟨d', ?_⟩
      rw [restT_get, e1, Option.map_some, if_neg (by simpa using hi)]
end
theorem rest_root {τ1 τ' : Sls} {σ : L2.St} {own : List Nat} {p : Addr} (hlen : τ'.length = τ1.length) (h : IsRoot (restT own τ1 τ') σ p) : IsRoot τ1 σ p ∨ IsRoot τ' (wipe σ own) p := by
  obtain ⟨j, sl, h1, h2, h3⟩ := h
  rw [restT_get] at h1
  obtain ⟨s', e, h1⟩ := Option.map_eq_some_iff.mp h1
  by_cases hj : j ∈ own
  · rw [if_pos (by simpa using hj)] at h1
    have hl : j < τ1.length := by
      have := (List.getElem?_eq_some_iff.mp e).1
      omega
    rw [List.getElem?_eq_getElem hl] at h1
    exact .inl ⟨j, sl, by rw [List.getElem?_eq_getElem hl]; exact congrArg some h1, h2, h3⟩
  · rw [if_neg (by simpa using hj)] at h1
    subst h1
    exact .inr ⟨j, _, e, h2, by rw [wipe_get hj]; exact h3⟩
theorem lcL_run {K : PySem.W.Frag} {wi : TI} {t : TG} {L own : List Nat} {tt : TT} {te : TE} {it : M (List T)} {g : T → Sls → Option Sls} {cnd : M Bool} {elt : M T} (hi : SI K wi it) (hg : SG K L t g) (ht : SB K tt cnd) (he : SV K te elt) (hL : ∀ j ∈ L, j ∈ own) :
    SE K (tLc wi t tt te own) (lcE it g cnd elt own) := by
  intro τ τ' res σ H F Q e k c
  unfold lcE at e
  obtain ⟨p, h1, e⟩ := Option.bind_eq_some_iff.mp e
  obtain ⟨q, h2, e⟩ := Option.bind_eq_some_iff.mp e
  obtain ⟨ds, τ1⟩ := p
  obtain ⟨ys, τe⟩ := q
  dsimp only at h2 e
  split at e
  · rename_i hz
    cases e
    refine hi τ τ1 ds σ H F _ h1 k fun J H1 F1 k1 s1 y1 D hD => ?_
    obtain ⟨fD, rD⟩ := k1.fresh hD
    have rD0 : ¬ IsRoot (wipeT own τ1) (wipe σ own) D := fun ⟨j, r⟩ => rD ⟨j, (wipeT_rootAt r).2⟩
    refine ⟨fun i m H' => m = ds.length - i ∧ i ≤ ds.length ∧ ∃ (τ' : Sls) (F' : Hp) (vs : List V) (acc rest : List T), Ok K F' τ' (wipe σ own) H' ∧ Stp (wipeT own τ1) (wipe σ own) H1 F1 τ' (wipe σ own) H' F' ∧ F' D = none ∧ H' D = some (.lst vs) ∧ ¬ IsRoot τ' (wipe σ own) D ∧
      RpA K F' vs acc ∧ acc ++ rest = ys ∧ lcL g cnd elt own (ds.drop i) τ' = some (rest, τe) ∧ Same F1 F',
      ⟨_, rfl, Nat.zero_le _, wipeT own τ1, F1, [], [], ys, (k1.wipe).mut fD rD0, Stp.refl.mut hD, fD, upd_same, rD0, .nil, rfl, h2, fun _ _ z => z⟩, ?_⟩
    rintro i m H' ⟨rfl, hle, τ', F', vs, acc, rest, k', s', fD', hD', rD', ra, er, e', sF⟩
    by_cases hlt : i < ds.length
    · have hd : ds[i]? = some ds[i] := List.getElem?_eq_getElem hlt
      rw [List.drop_eq_getElem_cons hlt, lcL] at e'
      obtain ⟨τ2, h3, e'⟩ := Option.bind_eq_some_iff.mp e'
      obtain ⟨b, h4, e'⟩ := Option.bind_eq_some_iff.mp e'
      obtain ⟨go, yl⟩ := y1.2 i _ H' F' hd sF k'.sub
      refine .inr ⟨go, fun H3 => ∃ (τ' : Sls) (F' : Hp) (vs : List V) (acc rest : List T), Ok K F' τ' (wipe σ own) H3 ∧ Stp (wipeT own τ1) (wipe σ own) H1 F1 τ' (wipe σ own) H3 F' ∧ F' D = none ∧ H3 D = some (.lst vs) ∧ ¬ IsRoot τ' (wipe σ own) D ∧
        RpA K F' vs acc ∧ acc ++ rest = ys ∧ lcL g cnd elt own (ds.drop (i + 1)) τ' = some (rest, τe) ∧ Same F1 F', fun H3 w => ⟨_, by omega, rfl, hlt, w⟩, fun x H2 y => ?_⟩
      obtain ⟨F2, g2, r2⟩ := yl x H2 y
      refine hg _ x τ' τ2 _ H2 F2 _ h3 (k'.grow g2) r2 fun σ4 k4 s4 l4 o4 => ?_
      have ew : wipe σ4 own = wipe (wipe σ own) own := wipe_eq l4 hL o4
      have eww : wipe (wipe σ own) own = wipe σ own := by
        refine List.ext_getElem? fun j => ?_
        by_cases hj : j ∈ own
        · have a1 : ∀ (u : L2.St), (wipe u own)[j]? = if j < u.length then some none else none := fun u => by
            by_cases hl : j < u.length
            · rw [if_pos hl]
              have hl' : j < (wipe u own).length := by rw [wipe_length]; exact hl
              rw [List.getElem?_eq_getElem hl']
              cases q : (wipe u own)[j] with
              | none => rfl
              | some w => exact absurd (by rw [List.getElem?_eq_getElem hl', q]) (wipe_own (σ := u) (x := w) hj)
            · rw [if_neg hl, List.getElem?_eq_none (by rw [wipe_length]; omega)]
          rw [a1, a1, wipe_length]
        · rw [wipe_get hj]
      rw [eww] at ew
      refine ⟨ew, ?_⟩
      have st4 : Stp (wipeT own τ1) (wipe σ own) H1 F1 τ2 σ4 H2 F2 := s'.trans (g2.step.trans s4)
      have d4 := (g2.step (τ := τ') (σ := wipe σ own) |>.trans s4).free2 fD' hD' rD'
      refine ht τ2 b.2 b.1 σ4 H2 F2 _ h4 k4 fun H5 F5 k5 s5 => ?_
      have st5 := st4.trans s5
      have d5 := s5.free2 d4.1 d4.2.1 d4.2.2
      by_cases hb : b.1 = true
      · rw [if_pos hb] at e' ⊢
        obtain ⟨z, h5, e'⟩ := Option.bind_eq_some_iff.mp e'
        obtain ⟨w, h6, e'⟩ := Option.map_eq_some_iff.mp e'
        obtain ⟨ws, τw⟩ := w
        cases e'
        refine he b.2 z.2 z.1 σ4 H5 F5 _ h5 k5 fun v H6 F6 k6 s6 r6 => ?_
        have st6 := st5.trans s6
        have d6 := s6.free2 d5.1 d5.2.1 d5.2.2
        have rw6 : ¬ IsRoot (wipeT own z.2) (wipe σ4 own) D := fun ⟨j, r⟩ => d6.2.2 ⟨j, (wipeT_rootAt r).2⟩
        have la : acc.length < sizeLine := by
          have : acc.length + (ws.length + 1) = ys.length := by rw [← er]; simp
          omega
        refine ⟨vs, d6.2.1, by rw [ra.length]; exact la, wipeT own z.2, F6, vs ++ [v], acc ++ [z.1], ws, ?_, ?_, d6.1, upd_same, by rw [← ew]; exact rw6, (ra.mono (g2.ff.trans (s4.fr.trans (s5.fr.trans s6.fr)))).append (.one r6), by rw [← er]; simp, h6, sF.trans (g2.ff.trans (s4.fr.trans (s5.fr.trans s6.fr)))⟩
        · rw [← ew]
          exact (k6.wipe).mut d6.1 rw6
        · rw [← ew]
          have := st6.wipe
          rw [ew] at this ⊢
          exact this.mut hD
      · rw [if_neg hb] at e' ⊢
        have rw5 : ¬ IsRoot (wipeT own b.2) (wipe σ4 own) D := fun ⟨j, r⟩ => d5.2.2 ⟨j, (wipeT_rootAt r).2⟩
        refine ⟨wipeT own b.2, F5, vs, acc, rest, ?_, ?_, d5.1, d5.2.1, by rw [← ew]; exact rw5, ra.mono (g2.ff.trans (s4.fr.trans s5.fr)), er, e', sF.trans (g2.ff.trans (s4.fr.trans s5.fr))⟩
        · rw [← ew]
          exact k5.wipe
        · have := st5.wipe
          rw [ew] at this
          exact this
    · have hi : i = ds.length := by omega
      subst hi
      rw [List.drop_length, lcL] at e'
      cases e'
      rw [List.append_nil] at er
      subst er
      obtain ⟨k2, s2⟩ := rest_ok k1 k' s'
      have st := s1.trans s2
      refine .inl ⟨y1.1 H' (sF.trans k'.sub), c (.ref D) H' F' k2 st (.inr ⟨rfl, D, rfl, fD', fun z => ?_, .inl (s1.free hD), vs, hD', ra⟩)⟩
      rcases rest_root (by rw [k'.len, wipe_length, k1.len]) z with z | z
      · exact rD z
      · exact rD' z
  · cases e
end TR

namespace TR
open PySem L2

/-! ### a root is changed -/
def setR (τ : Sls) (j : Nat) (d : T) : Option Sls := match τ[j]? with
  | some (.ow _) => some (τ.set j (.ow d))
  | some (.ln _) => some (τ.set j (.ln d))
  | _ => none
section
variable {K : PySem.W.Frag} {F H : Hp} {τ τ' : Sls} {σ : L2.St}
theorem setR_root (k : Ok K F τ σ H) {j : Nat} {d : T} (e : setR τ j d = some τ') : ∃ p d0, RootAt τ σ j p ∧ slT τ[j]? = some d0 ∧ Own K F H p d0 ∧ F p = none := by
  unfold setR at e
  have hl : j < σ.length := by
    rw [← k.len]
    split at e
    · exact (List.getElem?_eq_some_iff.mp (by assumption)).1
    · exact (List.getElem?_eq_some_iff.mp (by assumption)).1
    · cases e
  have hx : σ[j]? = some σ[j] := List.getElem?_eq_getElem hl
  split at e
  · rename_i d0 h
    obtain ⟨p, e1, a, b⟩ := k.sl j _ _ h hx
    exact ⟨p, d0, ⟨_, h, rfl, by rw [hx, e1]⟩, by rw [h]; rfl, b, a⟩
  · rename_i d0 h
    obtain ⟨p, e1, a, b⟩ := k.sl j _ _ h hx
    exact ⟨p, d0, ⟨_, h, rfl, by rw [hx, e1]⟩, by rw [h]; rfl, b, a⟩
  · cases e
theorem setR_ok (k : Ok K F τ σ H) {j : Nat} {d : T} {p : Addr} {o : HO} (e : setR τ j d = some τ') (r : RootAt τ σ j p) (hF : F p = none) (hO : Own K F (L2.upd H p o) p d) :
    Ok K F τ' σ (L2.upd H p o) ∧ Stp τ σ H F τ' σ (L2.upd H p o) F := by
  have hl : j < τ.length := by
    obtain ⟨s, h, _⟩ := r
    exact (List.getElem?_eq_some_iff.mp h).1
  have rt : ∀ {i : Nat} {q : Addr}, RootAt τ' σ i q → RootAt τ σ i q := fun {i q} ⟨s, h1, h2, h3⟩ => by
    unfold setR at e
    split at e
    all_goals first
      | (rename_i d0 h
         cases e
         by_cases hi : j = i
         · subst hi
           exact ⟨_, h, rfl, h3⟩
         · rw [List.getElem?_set_ne hi] at h1
           exact ⟨s, h1, h2, h3⟩)
      | cases e
  have len : τ'.length = τ.length := by
    unfold setR at e
    split at e <;> first | (cases e; exact List.length_set) | cases e
  have oth : ∀ {i : Nat}, i ≠ j → τ'[i]? = τ[i]? := fun {i} hi => by
    unfold setR at e
    split at e <;> first | (cases e; exact List.getElem?_set_ne (Ne.symm hi)) | cases e
  refine ⟨⟨fun b u h => by rw [upd_ne (ne_of_none h hF)]; exact k.sub b u h, len.trans k.len, fun i s x h1 h2 => ?_, fun a b q r1 r2 => k.ne a b q (rt r1) (rt r2)⟩,
    ⟨fun b u h n => by rw [upd_ne (fun z => n ⟨j, by rw [z]; exact r⟩)]; exact h, fun b u h => ?_, fun _ _ z => z, fun _ _ h => .inl h, fun q ⟨i, z⟩ => .inl ⟨i, rt z⟩, fun i d' h => ⟨?_, rfl⟩⟩⟩
  · by_cases hi : i = j
    · subst hi
      obtain ⟨s0, g1, g2, g3⟩ := r
      rw [g3] at h2
      cases h2
      unfold setR at e
      split at e
      · cases e
        rw [List.getElem?_set_self hl] at h1
        cases h1
        exact ⟨p, rfl, hF, hO⟩
      · cases e
        rw [List.getElem?_set_self hl] at h1
        cases h1
        exact ⟨p, rfl, hF, hO⟩
      · cases e
    · rw [oth hi] at h1
      have ne : ∀ {q : Addr}, s.isRoot = true → x = some (.ref q) → q ≠ p := fun {q} z1 z2 z3 => by
        subst z3 z2
        exact hi (k.ne i j q ⟨s, h1, z1, h2⟩ r)
      have q := k.sl i s x h1 h2
      cases s with
      | no => trivial
      | fr d => exact q
      | ow d =>
        obtain ⟨q, e1, a, b⟩ := q
        exact ⟨q, e1, a, b.mono (fun _ _ z => z) (upd_ne (ne rfl e1))⟩
      | ln d =>
        obtain ⟨q, e1, a, b⟩ := q
        exact ⟨q, e1, a, b.mono (fun _ _ z => z) (upd_ne (ne rfl e1))⟩
  · by_cases hb : b = p
    · subst hb; exact ⟨o, upd_same⟩
    · exact ⟨u, by rw [upd_ne hb]; exact h⟩
  · by_cases hi : i = j
    · subst hi
      unfold setR at e
      rw [h] at e
      cases e
      exact ⟨d, List.getElem?_set_self hl⟩
    · exact ⟨d', by rw [oth hi]; exact h⟩
end
/-- o[i] = v -/
def stG (c k v : T) : Option T := match c with
  | .lst ds => match k with
    | .int i => (ixN ds.length i).map fun j => .lst (ds.set j v)
    | _ => none
  | .dic kvs => if (keyOf k).isSome && decide (kvs.length < sizeLine) then some (.dic (putT kvs k v)) else none
  | .dit kvs => if (keysOf k).isSome && decide (kvs.length < sizeLine) then some (.dit (putT kvs k v)) else none
  | _ => none
def rSetG : V → V → V → Hp → (Hp → Prop) → Prop := fun o i v H Q => rSetL o i v H Q ∨ ∃ a H', o = .ref a ∧ DPut H a i v H' ∧ Q H'
theorem set_G {X : Cx} (hu : X.A.units + 1 < cLine) : PSet X rSetG := by
  intro pins s σ H o i v ov iv u Q I ro ri rv h
  rcases h with h | ⟨a, H', rfl, g, q⟩
  · exact set_list pins s σ H o i v ov iv u Q I ro ri rv h
  · obtain rfl : ov = Value.ref a := ro
    exact d_setItem hu I g ri rv fun s' I' => ⟨H', I', q⟩
def ixS (j : Nat) (fe fi : M T) : Sls → Option Out := fun τ => (fe τ).bind fun p => (slT p.2[j]?).bind fun _ => (fi p.2).bind fun q => (slT q.2[j]?).bind fun d => (stG d q.1 p.1).bind fun d' => (setR q.2 j d').map .nx
theorem slT_val {K : PySem.W.Frag} {F H : Hp} {τ : Sls} {σ : L2.St} (k : Ok K F τ σ H) {j : Nat} {d : T} (h : slT τ[j]? = some d) : ∃ v, σ[j]? = some (some v) ∧ Lk K F H v d := by
  cases es : τ[j]? with
  | none => rw [es] at h; cases h
  | some s =>
    have hn : s ≠ .no := fun z => by rw [es, z] at h; cases h
    obtain ⟨v, hv, l⟩ := k.val es hn
    rw [es] at h
    exact ⟨v, hv, l h⟩
theorem s_ixS {K : PySem.W.Frag} {te ti : TE} {fe fi : M T} {j : Nat} (he : SV K te fe) (hi : SV K ti fi) : SS K (tAsg te (gSub (tVar j) ti rSetG)) (ixS j fe fi) := by
  intro τ out σ H F D e k c
  unfold ixS at e
  obtain ⟨p, h1, e⟩ := Option.bind_eq_some_iff.mp e
  obtain ⟨_, h0, e⟩ := Option.bind_eq_some_iff.mp e
  obtain ⟨q, h2, e⟩ := Option.bind_eq_some_iff.mp e
  obtain ⟨d, h3, e⟩ := Option.bind_eq_some_iff.mp e
  obtain ⟨d', h4, e⟩ := Option.bind_eq_some_iff.mp e
  obtain ⟨τ3, h5, e⟩ := Option.map_eq_some_iff.mp e
  cases e
  refine he τ p.2 p.1 σ H F _ h1 k fun v H1 F1 k1 s1 r1 => ?_
  obtain ⟨w, hw, _⟩ := slT_val k1 h0
  refine ⟨w, hw, hi p.2 q.2 q.1 σ H1 F1 _ h2 k1 fun u H2 F2 k2 s2 r2 => ?_⟩
  obtain ⟨a, d0, ra, ed, oa, fa⟩ := setR_root k2 h5
  have ew : w = .ref a := by
    obtain ⟨_, _, _, z⟩ := ra
    rw [hw] at z
    exact Option.some.inj (Option.some.inj z)
  subst ew
  rw [h3] at ed
  cases ed
  have rv := r1.mono s2.fr
  have st := s1.trans s2
  have fin : ∀ o, Own K F2 (L2.upd H2 a o) a d' → D.nx σ (L2.upd H2 a o) := fun o ho => by
    obtain ⟨k3, s3⟩ := setR_ok k2 h5 ra fa ho
    exact c σ _ F2 k3 (st.trans s3)
  unfold stG at h4
  split at h4
  · rename_i ds
    split at h4
    · rename_i i hq
      obtain ⟨m, h6, h4⟩ := Option.map_eq_some_iff.mp h4
      subst h4
      obtain ⟨vs, hH, rA⟩ := oa
      rw [hq] at r2
      cases r2
      exact .inl ⟨a, vs, i, m, rfl, rfl, hH, by rw [rA.length]; exact h6, fin _ ⟨_, upd_same, rA.set rv m⟩⟩
    · cases h4
  · rename_i ds
    split at h4
    · rename_i hz
      cases h4
      rw [Bool.and_eq_true, decide_eq_true_eq] at hz
      obtain ⟨kvs, hH, rA⟩ := oa
      obtain ⟨kk, hk⟩ := Option.isSome_iff_exists.mp hz.1
      have ek := keyOf_eq hk
      have eu : u = kV kk := by
        rw [ek] at r2
        cases kk with
        | inl i => cases r2; rfl
        | inr x => cases r2; rfl
      refine .inr ⟨a, _, rfl, .inl ⟨kvs, kk, hH, eu, by rw [rA.length]; exact hz.2, rfl⟩, fin _ ⟨_, upd_same, ?_⟩⟩
      rw [ek]
      exact rA.put rv
    · cases h4
  · rename_i ds
    split at h4
    · rename_i hz
      cases h4
      rw [Bool.and_eq_true, decide_eq_true_eq] at hz
      obtain ⟨kvs, hH, rA⟩ := oa
      obtain ⟨kk, hk⟩ := Option.isSome_iff_exists.mp hz.1
      have ek := keysOf_eq hk
      rw [ek] at r2
      obtain ⟨b, vs, e1, e2, ra2⟩ := Lk.tup (H := H2) k2.sub (.inl r2)
      rw [ra2.keys] at e2
      refine .inr ⟨a, _, rfl, .inr ⟨kvs, kk, b, hH, e1, e2, by rw [rA.length]; exact hz.2, rfl⟩, fin _ ⟨_, upd_same, ?_⟩⟩
      rw [ek]
      exact rA.put rv
    · cases h4
  · cases h4

/-! ### methods that change a list -/
/-- g: the items, the arguments; what comes back, the items then -/
def RMS (K : PySem.W.Frag) (r : V → List V → Hp → VK → Prop) (g : List T → List T → Option (T × List T)) : Prop := ∀ (a : Addr) (vs xs : List V) (ds as : List T) (res : T × List T) (F H : Hp) (Q : VK), g ds as = some res → Same F H → F a = none → H a = some (.lst vs) → RpA K F vs ds → RpA K F xs as →
  (∀ v ws, RpA K F ws res.2 → Rp K F v res.1 → Q v (L2.upd H a (.lst ws))) → r (.ref a) xs H Q
def lstOf : Option T → Option (List T)
  | some (.lst ds) => some ds
  | _ => none
def metE (j : Nat) (g : List T → List T → Option (T × List T)) (fa : M (List T)) : M R := fun τ => (lstOf (slT τ[j]?)).bind fun _ => (fa τ).bind fun p => (lstOf (slT p.2[j]?)).bind fun ds => (g ds p.1).bind fun q => (setR p.2 j (.lst q.2)).map fun τ' => (⟨q.1, false⟩, τ')
theorem lstOf_some {o : Option T} {ds : List T} (h : lstOf o = some ds) : o = some (.lst ds) := by
  unfold lstOf at h
  split at h
  · cases h; rfl
  · cases h
theorem s_met {K : PySem.W.Frag} {j : Nat} {r : V → List V → Hp → VK → Prop} {g : List T → List T → Option (T × List T)} {ta : TA} {fa : M (List T)} (hr : RMS K r g) (ha : SAV K ta fa) : SE K (tBM K "list" r (tVar j) ta) (metE j g fa) := by
  intro τ τ' res σ H F Q e k c
  unfold metE at e
  obtain ⟨ds0, h0, e⟩ := Option.bind_eq_some_iff.mp e
  obtain ⟨p, h1, e⟩ := Option.bind_eq_some_iff.mp e
  obtain ⟨ds, h2, e⟩ := Option.bind_eq_some_iff.mp e
  obtain ⟨q, h3, e⟩ := Option.bind_eq_some_iff.mp e
  obtain ⟨τ3, h5, e⟩ := Option.map_eq_some_iff.mp e
  cases e
  obtain ⟨w, hw, l0⟩ := slT_val k (lstOf_some h0)
  obtain ⟨a0, vs0, ew0, hH0, _⟩ := l0.lst k.sub
  refine ⟨w, hw, by rw [ew0]; exact .inl ⟨rfl, vs0, SqL.of hH0⟩, ha τ p.2 p.1 σ H F _ h1 k fun xs H1 F1 k1 s1 r1 => ?_⟩
  obtain ⟨a, d0, ra, ed, oa, fa⟩ := setR_root k1 h5
  have ew : w = .ref a := by
    obtain ⟨_, _, _, z⟩ := ra
    rw [hw] at z
    exact Option.some.inj (Option.some.inj z)
  rw [lstOf_some h2] at ed
  cases ed
  obtain ⟨vs, hH, rA⟩ := oa
  rw [ew]
  refine hr a vs xs ds p.1 q F1 H1 Q h3 k1.sub fa hH rA r1 fun v ws rw' rv => ?_
  obtain ⟨k3, s3⟩ := setR_ok (o := .lst ws) k1 h5 ra fa ⟨ws, upd_same, rw'⟩
  exact c v _ F1 k3 (s1.trans s3) (.inl ⟨rfl, rv⟩)
theorem s_met0 {K : PySem.W.Frag} {j : Nat} {r : V → List V → Hp → VK → Prop} {g : List T → List T → Option (T × List T)} (hr : RMS K r g) : SE K (tBM0 K "list" r (tVar j)) (metE j g nilV) := by
  intro τ τ' res σ H F Q e k c
  unfold metE nilV at e
  obtain ⟨ds0, h0, e⟩ := Option.bind_eq_some_iff.mp e
  obtain ⟨p, h1, e⟩ := Option.bind_eq_some_iff.mp e
  cases h1
  obtain ⟨ds, h2, e⟩ := Option.bind_eq_some_iff.mp e
  obtain ⟨q, h3, e⟩ := Option.bind_eq_some_iff.mp e
  obtain ⟨τ3, h5, e⟩ := Option.map_eq_some_iff.mp e
  cases e
  obtain ⟨w, hw, l0⟩ := slT_val k (lstOf_some h0)
  obtain ⟨a, d0, ra, ed, oa, fa⟩ := setR_root k h5
  have ew : w = .ref a := by
    obtain ⟨_, _, _, z⟩ := ra
    rw [hw] at z
    exact Option.some.inj (Option.some.inj z)
  dsimp only at h2 ed
  rw [lstOf_some h2] at ed
  cases ed
  obtain ⟨vs, hH, rA⟩ := oa
  refine ⟨w, hw, by rw [ew]; exact .inl ⟨rfl, vs, SqL.of hH⟩, ?_⟩
  rw [ew]
  refine hr a vs [] ds [] q F H Q h3 k.sub fa hH rA .nil fun v ws rw' rv => ?_
  obtain ⟨k3, s3⟩ := setR_ok (o := .lst ws) k h5 ra fa ⟨ws, upd_same, rw'⟩
  exact c v _ F k3 s3 (.inl ⟨rfl, rv⟩)
def appG (ds as : List T) : Option (T × List T) := match as with
  | [d] => if ds.length < sizeLine then some (.non, ds ++ [d]) else none
  | _ => none
theorem s_app {K : PySem.W.Frag} : RMS K rAppend appG := by
  intro a vs xs ds as res F H Q e s hF hH rA rx c
  unfold appG at e
  split at e
  · split at e
    · rename_i hz
      cases e
      cases rx with
      | cons x y =>
        cases y
        exact ⟨a, vs, _, rfl, rfl, hH, by rw [rA.length]; exact hz, c .non _ (rA.append (.one x)) .non⟩
    · cases e
  · cases e
def extG (ds as : List T) : Option (T × List T) := match as with
  | [.lst es] => if ds.length + es.length ≤ sizeLine then some (.non, ds ++ es) else none
  | _ => none
theorem s_ext {K : PySem.W.Frag} : RMS K rExtend extG := by
  intro a vs xs ds as res F H Q e s hF hH rA rx c
  unfold extG at e
  split at e
  · split at e
    · rename_i hz
      cases e
      cases rx with
      | cons x y =>
        cases y
        cases x with
        | lst hb rb => exact ⟨a, _, vs, _, rfl, rfl, hH, s _ _ hb, by rw [rA.length, rb.length]; exact hz, c .non _ (rA.append rb) .non⟩
    · cases e
  · cases e
theorem RpA.eraseIdx {K : PySem.W.Frag} {F : Hp} : ∀ {vs : List V} {ds : List T} (i : Nat), RpA K F vs ds → RpA K F (vs.eraseIdx i) (ds.eraseIdx i)
  | _, _, _, .nil => .nil
  | _, _, 0, .cons _ b => b
  | _, _, i + 1, .cons a b => .cons a (RpA.eraseIdx i b)
theorem RpA.dropLast {K : PySem.W.Frag} {F : Hp} {vs : List V} {ds : List T} (a : RpA K F vs ds) : RpA K F vs.dropLast ds.dropLast := by
  rw [List.dropLast_eq_take, List.dropLast_eq_take, a.length]
  exact a.take _
def popG (ds as : List T) : Option (T × List T) := match as with
  | [] => (ds[ds.length - 1]?).map fun d => (d, ds.dropLast)
  | _ => none
theorem s_pop {K : PySem.W.Frag} : RMS K rPop popG := by
  intro a vs xs ds as res F H Q e s hF hH rA rx c
  unfold popG at e
  split at e
  · obtain ⟨d, h1, e⟩ := Option.map_eq_some_iff.mp e
    cases e
    cases rx
    obtain ⟨v, hv, rv⟩ := rA.get h1
    exact ⟨a, vs, v, rfl, rfl, hH, by rw [rA.length]; exact hv, c v _ rA.dropLast rv⟩
  · cases e
def popAtG (ds as : List T) : Option (T × List T) := match as with
  | [.int i] => if rgOk i = true then (ixN ds.length i).bind fun j => (ds[j]?).map fun d => (d, ds.eraseIdx j) else none
  | _ => none
theorem s_popAt {K : PySem.W.Frag} : RMS K rPopAt popAtG := by
  intro a vs xs ds as res F H Q e s hF hH rA rx c
  unfold popAtG at e
  split at e
  · split at e
    · rename_i hz
      have hz := rgOk_spec hz
      obtain ⟨j, h0, e⟩ := Option.bind_eq_some_iff.mp e
      obtain ⟨d, h1, e⟩ := Option.map_eq_some_iff.mp e
      cases e
      obtain ⟨q1, q2, q3, q4⟩ := ixN_seq h0
      obtain ⟨v, hv, rv⟩ := rA.get h1
      cases rx with
      | cons x y =>
        cases y
        cases x
        exact ⟨a, vs, _, j, v, rfl, rfl, hH, by omega, by omega, by rw [rA.length]; exact q1, hv, c v _ (rA.eraseIdx j) rv⟩
    · cases e
  · cases e
end TR

namespace TR
open PySem L2

/-! ### a def by its body -/
def back : Sls → Sls → Sls
  | s :: r, s1 :: r1 => (match s with
    | .ln _ => s1
    | _ => s) :: back r r1
  | s :: r, [] => s :: r
  | [], _ => []
def fnS (m : Nat) (g : Sls → Option Out) : FnS := fun τ => (g (τ ++ List.replicate m .no)).bind fun o => match o with
  | .rt r τ1 => some (r, back τ τ1)
  | .nx τ1 => some (⟨.non, false⟩, back τ τ1)
  | _ => none
theorem back_length : ∀ τ τ1 : Sls, (back τ τ1).length = τ.length
  | [], _ => rfl
  | _ :: r, [] => rfl
  | _ :: r, _ :: r1 => congrArg Nat.succ (back_length r r1)
theorem back_get : ∀ (τ τ1 : Sls) (j : Nat) (s : Sl), (back τ τ1)[j]? = some s → (τ[j]? = some s ∧ ((∃ d, s = .ln d) → τ1[j]? = some s ∨ τ1[j]? = none)) ∨ (∃ d, τ[j]? = some (.ln d)) ∧ τ1[j]? = some s
  | [], _, _, _, h => by simp [back] at h
  | s0 :: r, [], j, s, h => .inl ⟨h, fun _ => .inr (by simp)⟩
  | s0 :: r, s1 :: r1, 0, s, h => by
    simp only [back, List.getElem?_cons_zero, Option.some.injEq] at h
    subst h
    cases s0 with
    | ln d => exact .inr ⟨⟨d, rfl⟩, rfl⟩
    | no => exact .inl ⟨rfl, fun ⟨d, e⟩ => by cases e⟩
    | fr d => exact .inl ⟨rfl, fun ⟨d, e⟩ => by cases e⟩
    | ow d => exact .inl ⟨rfl, fun ⟨d, e⟩ => by cases e⟩
  | s0 :: r, s1 :: r1, j + 1, s, h => by
    simp only [back, List.getElem?_cons_succ] at h ⊢
    exact back_get r r1 j s h
section
variable {K : PySem.W.Frag} {F H F' H' : Hp} {τ τ1 : Sls} {vs : List V} {m : Nat} {σ1 : L2.St}
theorem start_ok (k : Ok K F τ (vs.map some) H) : Ok K F (τ ++ List.replicate m .no) (vs.map some ++ List.replicate m none) H := by
  have rt : ∀ {j : Nat} {p : Addr}, RootAt (τ ++ List.replicate m .no) (vs.map some ++ List.replicate m none) j p → RootAt τ (vs.map some) j p := fun {j p} ⟨s, h1, h2, h3⟩ => by
    by_cases hj : j < τ.length
    · rw [List.getElem?_append_left hj] at h1
      rw [List.getElem?_append_left (by rw [← k.len]; exact hj)] at h3
      exact ⟨s, h1, h2, h3⟩
    · rw [List.getElem?_append_right (by omega), List.getElem?_replicate] at h1
      split at h1
      · cases h1; cases h2
      · cases h1
  refine ⟨k.sub, by simp [k.len], fun j s x h1 h2 => ?_, fun i j p r1 r2 => k.ne i j p (rt r1) (rt r2)⟩
  by_cases hj : j < τ.length
  · rw [List.getElem?_append_left hj] at h1
    rw [List.getElem?_append_left (by rw [← k.len]; exact hj)] at h2
    exact k.sl j s x h1 h2
  · rw [List.getElem?_append_right (by omega), List.getElem?_replicate] at h1
    split at h1
    · cases h1; trivial
    · cases h1
theorem back_ok (k : Ok K F τ (vs.map some) H) (hp : ∀ s ∈ τ, s.isPar = true) (k1 : Ok K F' τ1 σ1 H') (s1 : Stp (τ ++ List.replicate m .no) (vs.map some ++ List.replicate m none) H F τ1 σ1 H' F') :
    Ok K F' (back τ τ1) (vs.map some) H' ∧ Stp τ (vs.map some) H F (back τ τ1) (vs.map some) H' F' ∧ ∀ p, IsRoot (back τ τ1) (vs.map some) p → IsRoot τ (vs.map some) p := by
  have lnAt : ∀ {j : Nat} {d : T}, τ[j]? = some (.ln d) → (∃ d', τ1[j]? = some (.ln d')) ∧ σ1[j]? = (vs.map some)[j]? := fun {j d} h => by
    have hj : j < τ.length := (List.getElem?_eq_some_iff.mp h).1
    obtain ⟨e1, e2⟩ := s1.ln j d (by rw [List.getElem?_append_left hj]; exact h)
    refine ⟨e1, ?_⟩
    rw [e2, List.getElem?_append_left (by rw [← k.len]; exact hj)]
  have rt0 : ∀ {p : Addr}, IsRoot (τ ++ List.replicate m .no) (vs.map some ++ List.replicate m none) p → IsRoot τ (vs.map some) p := fun {p} ⟨j, s, h1, h2, h3⟩ => by
    by_cases hj : j < τ.length
    · rw [List.getElem?_append_left hj] at h1
      rw [List.getElem?_append_left (by rw [← k.len]; exact hj)] at h3
      exact ⟨j, s, h1, h2, h3⟩
    · rw [List.getElem?_append_right (by omega), List.getElem?_replicate] at h1
      split at h1
      · cases h1; cases h2
      · cases h1
  -- a slot behind the body: a value that stood, or a lent root
  have at_ : ∀ {j : Nat} {s : Sl}, (back τ τ1)[j]? = some s → (∃ d, s = .fr d ∧ τ[j]? = some (.fr d)) ∨ ∃ d d', s = .ln d' ∧ τ[j]? = some (.ln d) ∧ τ1[j]? = some (.ln d') := fun {j s} h => by
    rcases back_get τ τ1 j s h with ⟨e1, e2⟩ | ⟨⟨d, e1⟩, e2⟩
    · have q := hp s (List.mem_of_getElem? e1)
      cases s with
      | no => cases q
      | ow d => cases q
      | fr d => exact .inl ⟨d, rfl, e1⟩
      | ln d =>
        obtain ⟨⟨d', e3⟩, _⟩ := lnAt e1
        rcases e2 ⟨d, rfl⟩ with e2 | e2
        · exact .inr ⟨d, d, rfl, e1, e2⟩
        · rw [e2] at e3; cases e3
    · obtain ⟨⟨d', e3⟩, _⟩ := lnAt e1
      rw [e2] at e3
      cases e3
      exact .inr ⟨d, d', rfl, e1, e2⟩
  have rtB : ∀ {j : Nat} {p : Addr}, RootAt (back τ τ1) (vs.map some) j p → RootAt τ (vs.map some) j p := fun {j p} ⟨s, h1, h2, h3⟩ => by
    rcases at_ h1 with ⟨d, rfl, e⟩ | ⟨d, d', rfl, e, _⟩
    · cases h2
    · exact ⟨_, e, rfl, h3⟩
  refine ⟨⟨k1.sub, by rw [back_length]; exact k.len, fun j s x h1 h2 => ?_, fun i j p r1 r2 => k.ne i j p (rtB r1) (rtB r2)⟩,
    ⟨fun b o h n => s1.keep b o h fun z => n (rt0 z), s1.dom, s1.fr, fun b o h => (s1.new b o h).imp id fun z => z.imp id rt0, fun p ⟨j, r⟩ => .inl ⟨j, rtB r⟩, fun j d h => ⟨?_, rfl⟩⟩, fun p ⟨j, r⟩ => ⟨j, rtB r⟩⟩
  · rcases at_ h1 with ⟨d, rfl, e⟩ | ⟨d, d', rfl, e, e2⟩
    · obtain ⟨v, e3, r⟩ := k.sl j _ x e h2
      exact ⟨v, e3, r.mono s1.fr⟩
    · obtain ⟨_, e3⟩ := lnAt e
      exact k1.sl j _ x e2 (e3.trans h2)
  · obtain ⟨⟨d', e1⟩, _⟩ := lnAt h
    have hj : j < (back τ τ1).length := by rw [back_length]; exact (List.getElem?_eq_some_iff.mp h).1
    have hs : (back τ τ1)[j]? = some (back τ τ1)[j] := List.getElem?_eq_getElem hj
    rcases at_ hs with ⟨d2, e2, e3⟩ | ⟨d2, d3, e2, _⟩
    · rw [h] at e3; cases e3
    · exact ⟨d3, by rw [hs, e2]⟩
end
theorem fn_run {K : PySem.W.Frag} {ts : TS} {g : Sls → Option Out} {n m : Nat} {N : List Str} {vs : List V} {H : Hp} {Q : VK} {E : XK} (hN : N.length = n + m) (hs : SS K ts g) (h : spT K n (fnS m g) vs H Q E) :
    ts { nx := fun _ H' => Q .non H', rt := Q } (L2.start N vs) H := by
  obtain ⟨hl, F, τ, r, τ', k, hp, e, c⟩ := h
  have est : L2.start N vs = vs.map some ++ List.replicate m none := by
    unfold L2.start
    rw [hN, hl, Nat.add_sub_cancel_left]
  rw [est]
  unfold fnS at e
  obtain ⟨o, h1, e⟩ := Option.bind_eq_some_iff.mp e
  refine hs _ o _ H F _ h1 (start_ok k) ?_
  have fin : ∀ {v : V} {τ1 : Sls} {σ1 : L2.St} {H' F' : Hp} {r : R}, Ok K F' τ1 σ1 H' → Stp (τ ++ List.replicate m .no) (vs.map some ++ List.replicate m none) H F τ1 σ1 H' F' → ROk K F' H' τ1 σ1 (τ ++ List.replicate m .no) (vs.map some ++ List.replicate m none) H v r →
      ROk K F' H' (back τ τ1) (vs.map some) τ (vs.map some) H v r := fun {v τ1 σ1 H' F' r} k1 s1 q => by
    obtain ⟨k2, s2, b2⟩ := back_ok k hp k1 s1
    rcases q with ⟨e, q⟩ | ⟨e, p, q1, q2, q3, q4, q5⟩
    · exact .inl ⟨e, q⟩
    · have h0 : H p = none := by
        rcases q4 with z | ⟨j, s, z1, z2, z3⟩
        · exact z
        · exfalso
          by_cases hj : j < τ.length
          · rw [List.getElem?_append_left hj] at z1
            have qp := hp s (List.mem_of_getElem? z1)
            cases s with
            | no => cases z2
            | fr d => cases z2
            | ow d => cases qp
            | ln d =>
              obtain ⟨⟨d', e1⟩, e2⟩ := s1.ln j d (by rw [List.getElem?_append_left hj]; exact z1)
              exact q3 ⟨j, _, e1, rfl, e2.trans z3⟩
          · rw [List.getElem?_append_right (by omega), List.getElem?_replicate] at z1
            split at z1
            · cases z1; cases z2
            · cases z1
      refine .inr ⟨e, p, q1, q2, fun z => ?_, .inl h0, q5⟩
      obtain ⟨o, eo⟩ := k.rootH (b2 p z)
      rw [h0] at eo
      cases eo
  cases o with
  | nx τ1 =>
    cases e
    exact fun σ1 H' F' k1 s1 => let ⟨k2, s2, _⟩ := back_ok k hp k1 s1; c _ H' F' k2 s2 (.inl ⟨rfl, .non⟩)
  | rt r' τ1 =>
    cases e
    exact fun v σ1 H' F' k1 s1 q => let ⟨k2, s2, _⟩ := back_ok k hp k1 s1; c v H' F' k2 s2 (fin k1 s1 q)
  | bk τ1 => cases e
  | ct τ1 => cases e
end TR

namespace TR
open PySem L2
theorem CallR.or {X : Cx} {f : Value} {r r' : List V → Hp → VK → Prop} (h : CallR X f r) (h' : CallR X f r') : CallR X f (fun xs H Q => r xs H Q ∨ r' xs H Q) := by
  intro pins s σ H xs us Q I rv q
  rcases q with q | q
  · exact h pins s σ H xs us Q I rv q
  · exact h' pins s σ H xs us Q I rv q
section
variable {K : PySem.W.Frag}
/-! ### len -/
def lenG (as : List T) : Option R := match as with
  | [.lst ds] => some (ri ds.length)
  | [.frl ds] => some (ri ds.length)
  | [.tup ds] => some (ri ds.length)
  | [.str x] => if x.length ≤ sizeLine then some (ri x.length) else none
  | [.dic kvs] => some (ri kvs.length)
  | [.dit kvs] => some (ri kvs.length)
  | _ => none
def rLenK : List V → Hp → VK → Prop := fun xs H Q => ∃ a kvs, xs = [V.ref a] ∧ Rd H a (.dK kvs) ∧ Q (.int kvs.length) H
theorem call_lenK {X : Cx} : CallR X (.builtin "len") rLenK := by
  intro pins s σ H xs us Q I r h
  obtain ⟨a, kvs, rfl, ha, q⟩ := h
  obtain ⟨u, rfl, ru⟩ := vals1 r
  cases ru
  exact d_len I ha fun t s' I' => ⟨.int kvs.length, H, I', ⟨t, rfl⟩, q⟩
def rLenV (K : PySem.W.Frag) : List V → Hp → VK → Prop := fun xs H Q => ∃ x n, xs = [x] ∧ LenV K x H n ∧ Q (.int n) H
def rLenG (K : PySem.W.Frag) : List V → Hp → VK → Prop := fun xs H Q => rLenV K xs H Q ∨ rLenK xs H Q ∨ rLenT xs H Q
theorem call_lenG {X : Cx} : CallR X (.builtin "len") (rLenG X.K) := CallR.or call_len (CallR.or call_lenK call_len_dT)
theorem LkA.one {F H : Hp} {xs : List V} {a : T} (h : LkA K F H xs [a]) : ∃ x, xs = [x] ∧ Lk K F H x a := by
  cases h with
  | cons h t => cases t; exact ⟨_, rfl, h⟩
theorem LkA.two {F H : Hp} {xs : List V} {a b : T} (h : LkA K F H xs [a, b]) : ∃ x y, xs = [x, y] ∧ Lk K F H x a ∧ Lk K F H y b := by
  cases h with
  | cons h t =>
    obtain ⟨y, rfl, r⟩ := t.one
    exact ⟨_, _, rfl, h, r⟩
theorem s_len : RLS K (rLenG K) lenG := by
  intro xs as res F H Q e s l c
  unfold lenG at e
  split at e
  · cases e
    obtain ⟨x, rfl, y⟩ := l.one
    obtain ⟨p, vs, rfl, hp, ap⟩ := y.lst s
    exact .inl ⟨_, _, rfl, .inl ⟨vs, SqL.of hp, by rw [ap.length]⟩, here s (.int _) c⟩
  · cases e
    obtain ⟨x, rfl, y⟩ := l.one
    obtain ⟨p, vs, rfl, hp, ap⟩ := y.frl s
    exact .inl ⟨_, _, rfl, .inl ⟨vs, hp, by rw [ap.length]⟩, here s (.int _) c⟩
  · cases e
    obtain ⟨x, rfl, y⟩ := l.one
    obtain ⟨p, vs, rfl, hp, ap⟩ := y.tup s
    exact .inl ⟨_, _, rfl, .inr ⟨vs, SqT.of hp, by rw [ap.length]⟩, here s (.int _) c⟩
  · split at e
    · rename_i hz
      cases e
      obtain ⟨x, rfl, y⟩ := l.one
      rw [y.str]
      exact .inl ⟨_, _, rfl, ⟨hz, rfl⟩, here s (.int _) c⟩
    · cases e
  · cases e
    obtain ⟨x, rfl, y⟩ := l.one
    obtain ⟨a, kvs, rfl, h1, h2⟩ := y.dic s
    refine .inr (.inl ⟨a, kvs, rfl, h1, ?_⟩)
    rw [h2.length]
    exact here s (.int _) c
  · cases e
    obtain ⟨x, rfl, y⟩ := l.one
    obtain ⟨a, kvs, rfl, h1, h2⟩ := y.dit s
    refine .inr (.inr ⟨a, kvs, rfl, h1, ?_⟩)
    rw [h2.length]
    exact here s (.int _) c
  · cases e
/-! ### int, abs, max, min -/
def intG (as : List T) : Option R := match as with
  | [.int i] => some (ri i)
  | [.bl b] => some (ri (if b then 1 else 0))
  | _ => none
def rInt1 : List V → Hp → VK → Prop := fun xs H Q => (∃ i, xs = [.int i] ∧ Q (.int i) H) ∨ ∃ k, xs = [.bl k] ∧ Q (.int (if k then 1 else 0)) H
theorem s_int1 : RLS K rInt1 intG := by
  intro xs as res F H Q e s l c
  unfold intG at e
  split at e
  · cases e
    obtain ⟨x, rfl, y⟩ := l.one
    rw [y.int]
    exact .inl ⟨_, rfl, here s (.int _) c⟩
  · cases e
    obtain ⟨x, rfl, y⟩ := l.one
    rw [y.bl]
    exact .inr ⟨_, rfl, here s (.int _) c⟩
  · cases e
def absG (as : List T) : Option R := match as with
  | [.int i] => some (ri (if i < 0 then -i else i))
  | _ => none
def rAbs : List V → Hp → VK → Prop := fun xs H Q => ∃ i, xs = [.int i] ∧ Q (.int (if i < 0 then -i else i)) H
theorem s_abs : RLS K rAbs absG := by
  intro xs as res F H Q e s l c
  unfold absG at e
  split at e
  · cases e
    obtain ⟨x, rfl, y⟩ := l.one
    rw [y.int]
    exact ⟨_, rfl, here s (.int _) c⟩
  · cases e
def max2G (as : List T) : Option R := match as with
  | [.int i, .int j] => some (ri (if j > i then j else i))
  | _ => none
def min2G (as : List T) : Option R := match as with
  | [.int i, .int j] => some (ri (if j < i then j else i))
  | _ => none
def rMax2 : List V → Hp → VK → Prop := fun xs H Q => ∃ i j, xs = [.int i, .int j] ∧ Q (.int (if j > i then j else i)) H
def rMin2 : List V → Hp → VK → Prop := fun xs H Q => ∃ i j, xs = [.int i, .int j] ∧ Q (.int (if j < i then j else i)) H
theorem s_max2 : RLS K rMax2 max2G := by
  intro xs as res F H Q e s l c
  unfold max2G at e
  split at e
  · cases e
    obtain ⟨x, y, rfl, l1, l2⟩ := l.two
    rw [l1.int, l2.int]
    exact ⟨_, _, rfl, here s (.int _) c⟩
  · cases e
theorem s_min2 : RLS K rMin2 min2G := by
  intro xs as res F H Q e s l c
  unfold min2G at e
  split at e
  · cases e
    obtain ⟨x, y, rfl, l1, l2⟩ := l.two
    rw [l1.int, l2.int]
    exact ⟨_, _, rfl, here s (.int _) c⟩
  · cases e
/-- sum, max, min, any, all of a list -/
def intsL (a : T) : Option (List Int) := (a.seqL).bind intsOf
theorem Lk.intsL {F H : Hp} {v : V} {a : T} {ns : List Int} (s : Same F H) (l : Lk K F H v a) (e : intsL a = some ns) : ∃ p, v = .ref p ∧ SqL K H p (ns.map V.int) := by
  unfold TR.intsL at e
  obtain ⟨ds, h1, h2⟩ := Option.bind_eq_some_iff.mp e
  obtain ⟨p, vs, h3, h4, h5⟩ := l.seqL s h1
  rw [intsOf_rp h2 h5] at h4
  exact ⟨p, h3, h4⟩
def sumG (as : List T) : Option R := match as with
  | [a] => (intsL a).map fun ns => ri ns.sum
  | _ => none
theorem s_sum : RLS K (rSum K) sumG := by
  intro xs as res F H Q e s l c
  unfold sumG at e
  split at e
  · obtain ⟨ns, h1, e⟩ := Option.map_eq_some_iff.mp e
    cases e
    obtain ⟨x, rfl, y⟩ := l.one
    obtain ⟨p, rfl, hp⟩ := y.intsL s h1
    exact ⟨p, ns, rfl, hp, here s (.int _) c⟩
  · cases e
def maxI : Int → List Int → Int
  | m, [] => m
  | m, x :: r => maxI (if m < x then x else m) r
def minI : Int → List Int → Int
  | m, [] => m
  | m, x :: r => minI (if x < m then x else m) r
theorem maxI_spec : ∀ (l : List Int) (m : Int), (maxI m l = m ∨ maxI m l ∈ l) ∧ m ≤ maxI m l ∧ ∀ y ∈ l, y ≤ maxI m l
  | [], m => ⟨.inl rfl, Int.le_refl _, fun _ h => by cases h⟩
  | x :: r, m => by
    rw [maxI]
    by_cases hx : m < x
    · rw [if_pos hx]
      obtain ⟨h1, h2, h3⟩ := maxI_spec r x
      refine ⟨.inr (h1.elim (fun e => by rw [e]; simp) (List.mem_cons_of_mem _)), by omega, fun y hy => (List.mem_cons.mp hy).elim (fun e => by omega) (h3 y)⟩
    · rw [if_neg hx]
      obtain ⟨h1, h2, h3⟩ := maxI_spec r m
      refine ⟨h1.imp id (List.mem_cons_of_mem _), h2, fun y hy => (List.mem_cons.mp hy).elim (fun e => by omega) (h3 y)⟩
theorem minI_spec : ∀ (l : List Int) (m : Int), (minI m l = m ∨ minI m l ∈ l) ∧ minI m l ≤ m ∧ ∀ y ∈ l, minI m l ≤ y
  | [], m => ⟨.inl rfl, Int.le_refl _, fun _ h => by cases h⟩
  | x :: r, m => by
    rw [minI]
    by_cases hx : x < m
    · rw [if_pos hx]
      obtain ⟨h1, h2, h3⟩ := minI_spec r x
      refine ⟨.inr (h1.elim (fun e => by rw [e]; simp) (List.mem_cons_of_mem _)), by omega, fun y hy => (List.mem_cons.mp hy).elim (fun e => by omega) (h3 y)⟩
    · rw [if_neg hx]
      obtain ⟨h1, h2, h3⟩ := minI_spec r m
      refine ⟨h1.imp id (List.mem_cons_of_mem _), h2, fun y hy => (List.mem_cons.mp hy).elim (fun e => by omega) (h3 y)⟩
def maxG (as : List T) : Option R := match as with
  | [a] => (intsL a).bind fun ns => match ns with
    | [] => none
    | n :: r => some (ri (maxI n r))
  | _ => none
def minG (as : List T) : Option R := match as with
  | [a] => (intsL a).bind fun ns => match ns with
    | [] => none
    | n :: r => some (ri (minI n r))
  | _ => none
theorem s_max : RLS K (rMax K) maxG := by
  intro xs as res F H Q e s l c
  unfold maxG at e
  split at e
  · obtain ⟨ns, h1, e⟩ := Option.bind_eq_some_iff.mp e
    split at e
    · cases e
    · rename_i n r
      cases e
      obtain ⟨x, rfl, y⟩ := l.one
      obtain ⟨p, rfl, hp⟩ := y.intsL s h1
      refine ⟨p, n :: r, rfl, hp, by simp, fun m hm hle => ?_⟩
      obtain ⟨g1, g2, g3⟩ := maxI_spec r n
      have e : m = maxI n r := by
        refine Int.le_antisymm ?_ ?_
        · rcases List.mem_cons.mp hm with rfl | hm
          · exact g2
          · exact g3 m hm
        · rcases g1 with g1 | g1
          · rw [g1]; exact hle n (by simp)
          · exact hle _ (List.mem_cons_of_mem _ g1)
      subst e
      exact here s (.int _) c
  · cases e
theorem s_min : RLS K (rMin K) minG := by
  intro xs as res F H Q e s l c
  unfold minG at e
  split at e
  · obtain ⟨ns, h1, e⟩ := Option.bind_eq_some_iff.mp e
    split at e
    · cases e
    · rename_i n r
      cases e
      obtain ⟨x, rfl, y⟩ := l.one
      obtain ⟨p, rfl, hp⟩ := y.intsL s h1
      refine ⟨p, n :: r, rfl, hp, by simp, fun m hm hle => ?_⟩
      obtain ⟨g1, g2, g3⟩ := minI_spec r n
      have e : m = minI n r := by
        refine Int.le_antisymm ?_ ?_
        · rcases g1 with g1 | g1
          · rw [g1]; exact hle n (by simp)
          · exact hle _ (List.mem_cons_of_mem _ g1)
        · rcases List.mem_cons.mp hm with rfl | hm
          · exact g2
          · exact g3 m hm
      subst e
      exact here s (.int _) c
  · cases e
def blsOf : List T → Option (List Bool)
  | [] => some []
  | .bl b :: r => (blsOf r).map (b :: ·)
  | _ :: _ => none
theorem blsOf_rp {F : Hp} : ∀ {ds : List T} {ns : List Bool} {vs : List V}, blsOf ds = some ns → RpA K F vs ds → vs = ns.map V.bl
  | [], ns, vs, e, a => by
    cases e; cases a; rfl
  | .bl i :: r, ns, vs, e, a => by
    cases a with
    | cons h t =>
      cases h
      unfold blsOf at e
      cases q : blsOf r with
      | none => rw [q] at e; cases e
      | some ms =>
        rw [q] at e
        cases e
        rw [blsOf_rp q t]
        rfl
  | .non :: r, _, _, e, _ | .int _ :: r, _, _, e, _ | .str _ :: r, _, _, e, _ | .tup _ :: r, _, _, e, _ | .lst _ :: r, _, _, e, _ | .frl _ :: r, _, _, e, _ | .dic _ :: r, _, _, e, _ | .dit _ :: r, _, _, e, _ => by cases e
def blsL (a : T) : Option (List Bool) := (a.seqL).bind blsOf
def allG (as : List T) : Option R := match as with
  | [a] => (blsL a).map fun ns => rb (ns.all id)
  | _ => none
def anyG (as : List T) : Option R := match as with
  | [a] => (blsL a).map fun ns => rb (ns.any id)
  | _ => none
theorem s_all : RLS K (rAll K) allG := by
  intro xs as res F H Q e s l c
  unfold allG at e
  split at e
  · obtain ⟨ns, h1, e⟩ := Option.map_eq_some_iff.mp e
    cases e
    obtain ⟨x, rfl, y⟩ := l.one
    obtain ⟨ds, h2, h3⟩ := Option.bind_eq_some_iff.mp h1
    obtain ⟨p, vs, rfl, h4, h5⟩ := y.seqL s h2
    rw [blsOf_rp h3 h5] at h4
    exact ⟨p, ns, rfl, h4, here s (.bl _) c⟩
  · cases e
theorem s_any : RLS K (rAny K) anyG := by
  intro xs as res F H Q e s l c
  unfold anyG at e
  split at e
  · obtain ⟨ns, h1, e⟩ := Option.map_eq_some_iff.mp e
    cases e
    obtain ⟨x, rfl, y⟩ := l.one
    obtain ⟨ds, h2, h3⟩ := Option.bind_eq_some_iff.mp h1
    obtain ⟨p, vs, rfl, h4, h5⟩ := y.seqL s h2
    rw [blsOf_rp h3 h5] at h4
    exact ⟨p, ns, rfl, h4, here s (.bl _) c⟩
  · cases e
/-! ### list, tuple -/
def listG (as : List T) : Option R := match as with
  | [.lst ds] => some ⟨.lst ds, true⟩
  | [.frl ds] => some ⟨.lst ds, true⟩
  | [.tup ds] => some ⟨.lst ds, true⟩
  | _ => none
def rListOf (K : PySem.W.Frag) : List V → Hp → VK → Prop := fun xs H Q => ∃ p ys, xs = [.ref p] ∧ (SqL K H p ys ∨ SqT K H p ys) ∧ ∀ l, H l = none → Q (.ref l) (L2.upd H l (.lst ys))
theorem s_list : RLS K (rListOf K) listG := by
  intro xs as res F H Q e s l c
  unfold listG at e
  split at e
  · cases e
    obtain ⟨x, rfl, y⟩ := l.one
    obtain ⟨p, vs, rfl, hp, ap⟩ := y.lst s
    exact ⟨p, vs, rfl, .inl (SqL.of hp), fun l hl => new_lst s hl ap c⟩
  · cases e
    obtain ⟨x, rfl, y⟩ := l.one
    obtain ⟨p, vs, rfl, hp, ap⟩ := y.frl s
    exact ⟨p, vs, rfl, .inl hp, fun l hl => new_lst s hl ap c⟩
  · cases e
    obtain ⟨x, rfl, y⟩ := l.one
    obtain ⟨p, vs, rfl, hp, ap⟩ := y.tup s
    exact ⟨p, vs, rfl, .inr (SqT.of hp), fun l hl => new_lst s hl ap c⟩
  · cases e
def tupleG (as : List T) : Option R := match as with
  | [.lst ds] => some ⟨.tup ds, false⟩
  | [.frl ds] => some ⟨.tup ds, false⟩
  | [.tup ds] => some ⟨.tup ds, false⟩
  | _ => none
def rTupleOf (K : PySem.W.Frag) : List V → Hp → VK → Prop := fun xs H Q => ∃ p ys, xs = [.ref p] ∧ ((SqL K H p ys ∧ ∀ l, H l = none → Q (.ref l) (L2.upd H l (.tup ys))) ∨ (SqT K H p ys ∧ Q (.ref p) H))
theorem s_tuple : RLS K (rTupleOf K) tupleG := by
  intro xs as res F H Q e s l c
  unfold tupleG at e
  split at e
  · cases e
    obtain ⟨x, rfl, y⟩ := l.one
    obtain ⟨p, vs, rfl, hp, ap⟩ := y.lst s
    exact ⟨p, vs, rfl, .inl ⟨SqL.of hp, fun l hl => new_tup s hl ap c⟩⟩
  · cases e
    obtain ⟨x, rfl, y⟩ := l.one
    obtain ⟨p, vs, rfl, hp, ap⟩ := y.frl s
    exact ⟨p, vs, rfl, .inl ⟨hp, fun l hl => new_tup s hl ap c⟩⟩
  · cases e
    obtain ⟨x, rfl, y⟩ := l.one
    obtain ⟨p, vs, e1, hp, ap⟩ := y.tup s
    subst e1
    rcases y with r | ⟨_, _, o⟩
    · exact ⟨p, vs, rfl, .inr ⟨SqT.of hp, here s r c⟩⟩
    · exact o.elim
  · cases e
/-! ### isinstance -/
def isiB (n : String) : T → Bool
  | .non => n == "NoneType"
  | .bl _ => n == "bool" || n == "int"
  | .int _ => n == "int"
  | .str _ => n == "str"
  | .tup _ => n == "tuple"
  | .lst _ => n == "list"
  | .frl _ => n == "list"
  | .dic _ => n == "dict"
  | .dit _ => n == "dict"
def isiOk (n : String) : Bool := n == "int" || n == "bool" || n == "str" || n == "list" || n == "tuple" || n == "dict"
def isiE (n : String) (f : M (Sls → Option T)) : M R := fun τ => (f τ).bind fun p => (p.1 p.2).map fun d => (rb (isiB n d), p.2)
theorem isi_kit {n : String} (h : isiOk n = true) : PySem.W.kitOne K (.type "NoneType") (.type n) = some (n == "NoneType") ∧ PySem.W.kitOne K (.type "bool") (.type n) = some (n == "bool" || n == "int") ∧ PySem.W.kitOne K (.type "int") (.type n) = some (n == "int") ∧
    PySem.W.kitOne K (.type "str") (.type n) = some (n == "str") ∧ PySem.W.kitOne K (.type "tuple") (.type n) = some (n == "tuple") ∧ PySem.W.kitOne K (.type "list") (.type n) = some (n == "list") ∧ PySem.W.kitOne K (.type "dict") (.type n) = some (n == "dict") := by
  unfold isiOk at h
  simp only [Bool.or_eq_true, beq_iff_eq] at h
  rcases h with ((((rfl | rfl) | rfl) | rfl) | rfl) | rfl
  all_goals exact ⟨kit_ty (by decide +kernel), kit_ty (by decide +kernel), kit_ty (by decide +kernel), kit_ty (by decide +kernel), kit_ty (by decide +kernel), kit_ty (by decide +kernel), kit_ty (by decide +kernel)⟩
/-- isinstance(x, T), T a built-in class by its name -/
theorem e_isi {X : Cx} {x : Expr} {tx : TE} {f : M (Sls → Option T)} {n : Str} {ty : String} {p p2 pos : Pos} (ho : isiOk ty = true) (hg : Gl X "isinstance") (hm : X.mg "isinstance" = none) (hgt : Gl X n) (hmt : X.mg n = none) (hb : bootBuiltins n = some (.type ty)) (hx : EO X x tx f)
    (hn : n ≠ "__name__" := by decide) (hdb : (n == ("__debug__" : Str)) = false := by decide)
    (h1 : starEach [x, .Name n p2] X.env = (false, eval x X.env) :: starEach [.Name n p2] X.env := by rfl) (h2 : starEach [.Name n p2] X.env = (false, eval (.Name n p2) X.env) :: starEach [] X.env := by rfl)
    (hpl : (backTo pos (starEach [.Name n p2] X.env)).any (·.1) = false := by rfl) :
    EE X (.Call (.Name "isinstance" p) [x, .Name n p2] [] pos) (tCB (rIsi X.K) (tCons tx (tCons (tC (.ty ty)) tNil))) (isiE ty f) := by
  refine ⟨pe_callB call_isi hg hm (by decide +kernel) (pa_cons hx.pe (pa_cons (pe_bltn hgt hmt hb rfl hn hdb) pa_nil h2) h1) (by decide) (by decide) h1 hpl, ?_⟩
  intro τ τ' res σ H F Q e k c
  unfold isiE at e
  obtain ⟨q, e1, e⟩ := Option.bind_eq_some_iff.mp e
  obtain ⟨d, e2, e⟩ := Option.map_eq_some_iff.mp e
  cases e
  refine hx.s τ q.2 q.1 σ H F _ e1 k fun v H1 F1 k1 s1 l1 => ?_
  have l := l1 _ _ _ _ k1 .refl e2
  obtain ⟨g1, g2, g3, g4, g5, g6, g7⟩ := isi_kit (K := X.K) ho
  have fin : ∀ b, Q (.bl b) H1 ∨ True := fun _ => .inr trivial
  have cc : Q (.bl (isiB ty d)) H1 := c _ H1 F1 k1 s1 (.inl ⟨rfl, .bl _⟩)
  cases d with
  | non => rw [l.non]; exact ⟨_, _, _, _, _, rfl, .ty ty, .base .non, g1, cc⟩
  | bl b => rw [l.bl]; exact ⟨_, _, _, _, _, rfl, .ty ty, .base (.bl b), g2, cc⟩
  | int b => rw [l.int]; exact ⟨_, _, _, _, _, rfl, .ty ty, .base (.int b), g3, cc⟩
  | str b => rw [l.str]; exact ⟨_, _, _, _, _, rfl, .ty ty, .base (.str b), g4, cc⟩
  | tup ds =>
    obtain ⟨a, vs, rfl, h, _⟩ := l.tup k1.sub
    exact ⟨_, _, _, _, _, rfl, .ty ty, .base (.tup h), g5, cc⟩
  | lst ds =>
    obtain ⟨a, vs, rfl, h, _⟩ := l.lst k1.sub
    exact ⟨_, _, _, _, _, rfl, .ty ty, .base (.lst h), g6, cc⟩
  | frl ds =>
    obtain ⟨a, vs, rfl, h, _⟩ := l.frl k1.sub
    rcases h with (h | ⟨o, h⟩) | ⟨o, its, n, h, hc, _⟩
    · exact ⟨_, _, _, _, _, rfl, .ty ty, .base (.lst h), g6, cc⟩
    · exact ⟨_, _, _, _, _, rfl, .ty ty, .base (.frz h), g6, cc⟩
    · exact ⟨_, _, _, _, _, rfl, .ty ty, .kList h hc, g6, cc⟩
  | dic ds =>
    obtain ⟨a, kvs, rfl, h, _⟩ := l.dic k1.sub
    rcases h with h | ⟨o, h⟩
    · exact ⟨_, _, _, _, _, rfl, .ty ty, .base (.dK h), g7, cc⟩
    · exact ⟨_, _, _, _, _, rfl, .ty ty, .fDict h, g7, cc⟩
  | dit ds =>
    obtain ⟨a, kvs, rfl, h, _⟩ := l.dit k1.sub
    exact ⟨_, _, _, _, _, rfl, .ty ty, .base (.dT h), g7, cc⟩
end
end TR

namespace TR
open PySem L2
/-! ### sorting: an insertion sort that the kernel can run -/
section
variable {α β : Type}
def insT (le : α → α → Bool) (x : α) : List α → List α
  | [] => [x]
  | y :: r => if le x y = true then x :: y :: r else y :: insT le x r
def isort (le : α → α → Bool) : List α → List α
  | [] => []
  | x :: r => insT le x (isort le r)
theorem insT_perm (le : α → α → Bool) (x : α) : ∀ l : List α, (insT le x l).Perm (x :: l)
  | [] => .refl _
  | y :: r => by
    rw [insT]
    split
    · exact .refl _
    · exact ((insT_perm le x r).cons y).trans (List.Perm.swap x y r)
theorem isort_perm (le : α → α → Bool) : ∀ l : List α, (isort le l).Perm l
  | [] => .refl _
  | x :: r => (insT_perm le x _).trans ((isort_perm le r).cons x)
theorem insT_pair {le : α → α → Bool} (h : PySem.W.TotalLe le) (x : α) : ∀ l : List α, l.Pairwise (fun a b => le a b = true) → (insT le x l).Pairwise (fun a b => le a b = true)
  | [], _ => by simp [insT]
  | y :: r, hp => by
    rw [insT]
    rw [List.pairwise_cons] at hp
    split
    · rename_i hx
      refine List.pairwise_cons.mpr ⟨fun z hz => ?_, List.pairwise_cons.mpr hp⟩
      rcases List.mem_cons.mp hz with rfl | hz
      · exact hx
      · exact h.trans _ _ _ hx (hp.1 z hz)
    · rename_i hx
      refine List.pairwise_cons.mpr ⟨fun z hz => ?_, insT_pair h x r hp.2⟩
      rcases List.mem_cons.mp ((insT_perm le x r).mem_iff.mp hz) with rfl | hz
      · exact (h.total _ _).resolve_left hx
      · exact hp.1 z hz
theorem isort_pair {le : α → α → Bool} (h : PySem.W.TotalLe le) : ∀ l : List α, (isort le l).Pairwise (fun a b => le a b = true)
  | [] => .nil
  | x :: r => insT_pair h x _ (isort_pair h r)
theorem insT_rank {le : α → α → Bool} (h : PySem.W.TotalLe le) (c x : α) : ∀ l : List α, l.Pairwise (fun a b => le a b = true) → (insT le x l).filter (PySem.W.sameRank le c) = (x :: l).filter (PySem.W.sameRank le c)
  | [], _ => rfl
  | y :: r, hp => by
    rw [insT]
    rw [List.pairwise_cons] at hp
    split
    · rfl
    · rename_i hx
      have ih := insT_rank h c x r hp.2
      by_cases hc : PySem.W.sameRank le c x = true
      · have hy : ¬ PySem.W.sameRank le c y = true := fun z => by
          unfold PySem.W.sameRank at hc z
          rw [Bool.and_eq_true] at hc z
          exact hx (h.trans _ _ _ hc.2 z.1)
        rw [List.filter_cons_of_neg hy, ih, List.filter_cons_of_pos hc, List.filter_cons_of_pos hc, List.filter_cons_of_neg hy]
      · rw [List.filter_cons_of_neg hc] at ih ⊢
        by_cases hy : PySem.W.sameRank le c y = true
        · rw [List.filter_cons_of_pos hy, List.filter_cons_of_pos hy, ih]
        · rw [List.filter_cons_of_neg hy, List.filter_cons_of_neg hy, ih]
theorem isort_rank {le : α → α → Bool} (h : PySem.W.TotalLe le) (c : α) : ∀ l : List α, (isort le l).filter (PySem.W.sameRank le c) = l.filter (PySem.W.sameRank le c)
  | [] => rfl
  | x :: r => by
    rw [isort, insT_rank h c x _ (isort_pair h r)]
    by_cases hc : PySem.W.sameRank le c x = true
    · rw [List.filter_cons_of_pos hc, List.filter_cons_of_pos hc, isort_rank h c r]
    · rw [List.filter_cons_of_neg hc, List.filter_cons_of_neg hc, isort_rank h c r]
theorem isort_merge {le : α → α → Bool} (h : PySem.W.TotalLe le) (l : List α) : isort le l = l.mergeSort le := PySem.W.sort_unique h (isort_pair h l) fun c => isort_rank h c l
theorem insT_map {le : β → β → Bool} (f : α → β) (x : α) : ∀ l : List α, (insT (fun a b => le (f a) (f b)) x l).map f = insT le (f x) (l.map f)
  | [] => rfl
  | y :: r => by
    rw [insT, List.map_cons, insT]
    split
    · rfl
    · rw [List.map_cons, insT_map f x r]
theorem isort_map {le : β → β → Bool} (f : α → β) : ∀ l : List α, (isort (fun a b => le (f a) (f b)) l).map f = isort le (l.map f)
  | [] => rfl
  | x :: r => by rw [isort, insT_map, isort_map f r]; rfl
end
def leT (a b : T) : Bool := PySem.W.dataLe false T.toD a b
def sortT (ds : List T) : List T := isort leT ds
def isTup1 : T → Bool
  | .tup (_ :: _) => true
  | _ => false
def notTN : T → Bool
  | .tup _ => false
  | .non => false
  | _ => true
/-- all of one kind, place by place; not too deep -/
def sortOk (ds : List T) : Bool := layA ds && (decide (depA ds ≤ 60) && (decide (ds.length ≤ sizeLine) && ((ds.all isTup1 || ds.all notTN) && ds.all fun a => ds.all fun b => PySem.W.alike a.toD b.toD)))
def sortedG (as : List T) : Option R := match as with
  | [.lst ds] => if sortOk ds = true then some ⟨.lst (sortT ds), true⟩ else none
  | _ => none
def zipLe (p q : V × T) : Bool := leT p.2 q.2
def rSortedT (K : PySem.W.Frag) : List V → Hp → VK → Prop := fun xs H Q => ∃ (a : Addr) (vs : List V) (ds : List T), xs = [.ref a] ∧ SqL K H a vs ∧ DpAll K H vs (toDA ds) ∧ sortOk ds = true ∧
  ∀ p, H p = none → Q (.ref p) (L2.upd H p (.lst ((isort zipLe (vs.zip ds)).map (·.1))))
theorem toDA_map : ∀ ds : List T, toDA ds = ds.map T.toD
  | [] => rfl
  | d :: r => congrArg (d.toD :: ·) (toDA_map r)
theorem mem_depA : ∀ {ds : List T} {d : T}, d ∈ ds → d.dep ≤ depA ds
  | x :: r, d, h => by
    rw [depA]
    rcases List.mem_cons.mp h with rfl | h
    · exact Nat.le_max_left _ _
    · exact Nat.le_trans (mem_depA h) (Nat.le_max_right _ _)
theorem dpAll_length {K : PySem.W.Frag} {H : Hp} : ∀ {vs : List V} {ds : List PyData}, DpAll K H vs ds → vs.length = ds.length
  | _, _, .nil => rfl
  | _, _, .cons _ b => congrArg Nat.succ (dpAll_length b)
theorem call_sortedT {X : Cx} (hu : X.A.units + 64 < cLine) : CallR X (.builtin "sorted") (rSortedT X.K) := by
  intro pins s σ H xs us Q I r h
  obtain ⟨a, vs, ds, rfl, hs, hd, ok, q⟩ := h
  obtain ⟨its, rv, hl, hz⟩ := I.list hs
  rw [Vals.ref1 r]
  unfold sortOk at ok
  simp only [Bool.and_eq_true, Bool.or_eq_true, decide_eq_true_eq, List.all_eq_true] at ok
  obtain ⟨o1, o2, o3, o4, o5⟩ := ok
  have lvd : vs.length = ds.length := by
    have := dpAll_length hd
    rw [toDA_map, List.length_map] at this
    exact this
  have e1 : ∀ {vs : List V} {ds : List T} {its : List Value}, Vals vs its → vs.length = ds.length → DpAll X.K H vs (toDA ds) → PySem.W.EachIs (fun v (b : V × T) => RelV b.1 v ∧ ∃ as, Reads s.heap v b.2.toD as) its (vs.zip ds) := by
    intro vs
    induction vs with
    | nil => intro ds its r l d; cases r; exact .nil
    | cons v vs ih =>
      intro ds its r l d
      cases ds with
      | nil => cases l
      | cons t ds =>
        cases r with
        | cons r1 r2 =>
          cases d with
          | cons d1 d2 => exact .cons ⟨r1, Dp.reads I _ _ _ d1 r1⟩ (ih r2 (by simpa using l) d2)
  have ee := e1 rv lvd hd
  have tot : PySem.W.TotalLe (PySem.W.dataLe (β := V × T) false fun b => b.2.toD) := PySem.W.sortLe_total _ _ _
  have mem2 : ∀ {b : V × T}, b ∈ vs.zip ds → b.2 ∈ ds := fun {b} hb => (List.of_mem_zip (a := b.1) (b := b.2) hb).2
  refine PySem.W.sorted_data (β := V × T) (bs := vs.zip ds) (enc := fun b => b.2.toD) (R := fun v b => RelV b.1 v) hl.isList (ee.mono fun _ _ h => h.1) (ee.mono fun _ _ h => h.2) (fun d hd' d' hd'' => ?_) ?_ ?_ (fun b hb => ?_) fun out hlen eo => ?_
  · obtain ⟨b, hb, rfl⟩ := List.mem_map.mp hd'
    obtain ⟨b', hb', rfl⟩ := List.mem_map.mp hd''
    exact o5 _ (mem2 hb) _ (mem2 hb')
  · refine o4.imp (fun h d hd' => ?_) fun h d hd' => ?_
    · obtain ⟨b, hb, rfl⟩ := List.mem_map.mp hd'
      have := h _ (mem2 hb)
      cases e : b.2 with
      | tup xs =>
        cases xs with
        | nil => rw [e] at this; cases this
        | cons x r => exact ⟨x.toD, toDA r, rfl⟩
      | _ => rw [e] at this; cases this
    · obtain ⟨b, hb, rfl⟩ := List.mem_map.mp hd'
      have := h _ (mem2 hb)
      cases e : b.2 <;> rw [e] at this <;> first | (cases this; done) | exact ⟨fun z => (nomatch z), fun xs z => (nomatch z)⟩
  · rw [List.length_zip, ← lvd, Nat.min_self]
    exact hz
  · have h1 := mem_depA (mem2 hb)
    rw [dep_toD]
    omega
  · rw [← isort_merge tot] at eo
    obtain ⟨ep, he'⟩ := PyProof.Rows.sortedAll_at s.heap its out.toArray
    have vo : ∀ {out : List Value} {bs : List (V × T)}, PySem.W.EachIs (fun v (b : V × T) => RelV b.1 v) out bs → Vals (bs.map (·.1)) out := by
      intro out bs h
      induction h with
      | nil => exact .nil
      | cons h _ ih => exact .cons h ih
    have hlen2 : ((isort zipLe (vs.zip ds)).map (·.1)).length ≤ sizeLine := by
      rw [List.length_map, (isort_perm _ _).length_eq, List.length_zip, ← lvd, Nat.min_self]
      exact hz
    exact ⟨.ref _, L2.upd H (s.heap.objs.size + 1) (.lst ((isort zipLe (vs.zip ds)).map (·.1))), I.laid (t' := s.toks) (fun _ _ => PyProof.Rows.sortedAll_old) (Nat.le_succ _) ⟨hlen2, out, ep, vo eo, he'⟩, rfl, q _ (I.hok.fresh (Nat.le_succ _))⟩
theorem RpA.zip {K : PySem.W.Frag} {F : Hp} : ∀ {vs : List V} {ds : List T}, RpA K F vs ds → ∀ p ∈ vs.zip ds, Rp K F p.1 p.2
  | _, _, .nil, _, h => by simp at h
  | _, _, .cons a b, p, h => by
    rw [List.zip_cons_cons] at h
    rcases List.mem_cons.mp h with rfl | h
    · exact a
    · exact b.zip p h
theorem RpA.of_pairs {K : PySem.W.Frag} {F : Hp} : ∀ {l : List (V × T)}, (∀ p ∈ l, Rp K F p.1 p.2) → RpA K F (l.map (·.1)) (l.map (·.2))
  | [], _ => .nil
  | p :: r, h => .cons (h p (List.mem_cons_self ..)) (RpA.of_pairs fun q hq => h q (List.mem_cons_of_mem _ hq))
theorem s_sorted {K : PySem.W.Frag} : RLS K (rSortedT K) sortedG := by
  intro xs as res F H Q e s l c
  unfold sortedG at e
  split at e
  · split at e
    · rename_i ds ok
      cases e
      obtain ⟨x, rfl, y⟩ := l.one
      obtain ⟨p, vs, rfl, hp, ap⟩ := y.lst s
      have lay : layA ds = true := by
        unfold sortOk at ok
        exact (Bool.and_eq_true_iff.mp ok).1
      refine ⟨p, vs, ds, rfl, SqL.of hp, (ap.mono s).dp lay, ok, fun l hl => ?_⟩
      have q : RpA K F ((isort zipLe (vs.zip ds)).map (·.1)) ((isort zipLe (vs.zip ds)).map (·.2)) := RpA.of_pairs fun p hp => ap.zip p ((isort_perm _ _).mem_iff.mp hp)
      have e2 : (isort zipLe (vs.zip ds)).map (·.2) = sortT ds := by
        have := isort_map (le := leT) (fun p : V × T => p.2) (vs.zip ds)
        rw [show (fun p : V × T => p.2) = Prod.snd from rfl, List.map_snd_zip (by rw [ap.length]; exact Nat.le_refl _)] at this
        exact this
      rw [e2] at q
      exact new_lst s hl q c
    · cases e
  · cases e
end TR

namespace TR
open PySem L2
section
variable {X : Cx} {st : Stmt} {rest : List Stmt} {t u : TS} {f g : Sls → Option Out} {e : Expr} {te : TE} {pos pos' : Pos}
theorem l_nil : EL X [] tNext skS := ⟨pss_nil, s_skip⟩
theorem l_cons (h : ES X st t f) (r : EL X rest u g) : EL X (st :: rest) (tSeq t u) (sqS f g) := ⟨pss_cons h.pe r.pe, s_seq h.s r.s⟩
theorem l_one (h : ES X st t f) : EL X [st] t f := ⟨pss_one h.pe, h.s⟩
theorem st_pass : ES X (.Pass pos) tNext skS := ⟨ps_pass, s_skip⟩
theorem st_brk : ES X (.Break pos) tBreak bkS := ⟨ps_break, s_bk⟩
theorem st_cont : ES X (.Continue pos) tCont ctS := ⟨ps_continue, s_ct⟩
theorem st_set {i : Nat} {x : Str} {fe : M R} (hN : X.N.Nodup) (hi : X.N[i]? = some x) (hx : Loc X.env.scope x) (he : EE X e te fe) (hs : swapsWith e (some (.Name x pos')) pos.line X.env = pure false := by rfl)
    (hf : X.fn x = true ∨ X.env.scope.names.lookup x = some .local := by first | exact .inl rfl | exact .inr rfl) : ES X (.Assign [.Name x pos'] e pos) (tAsg te (gName i)) (asgS i fe) := ⟨ps_set hN hi hx he.pe hs hf, s_asg he.s⟩
theorem st_expr {fe : M R} (he : EE X e te fe) (hs : swapsWith e none pos.line X.env = pure false := by rfl) : ES X (.Expr e pos) (tDrop te) (exS fe) := ⟨ps_expr he.pe hs, s_expr he.s⟩
theorem st_ret {fe : M R} (he : EE X e te fe) : ES X (.Return (some e) pos) (tRet te) (rtS fe) := ⟨ps_ret he.pe, s_ret he.s⟩
theorem st_retN : ES X (.Return none pos) tRetN rtN := ⟨ps_retN, s_retN⟩
theorem st_mv (i : Nat) {x : Str} {p : Pos} (hN : X.N[i]? = some x := by rfl) (hv : Vis X.env.scope x := by first | exact Or.inl rfl | exact Or.inr (Or.inl rfl) | exact Or.inr (Or.inr rfl)) (hd : (x == ("__debug__" : Str)) = false := by decide)
    (hcd : (x == ("__classdict__" : Str)) = false := by decide) : ES X (.Return (some (.Name x p)) pos) (tRet (tVar i)) (mvS i) := ⟨ps_ret (pe_var hN hv hd hcd), s_move⟩
theorem st_if {c : Expr} {a b : List Stmt} {tc : TT} {fc : M Bool} (hc : EB X c tc fc) (ha : EL X a t f) (hb : EL X b u g) : ES X (.If c a b pos) (tIfS tc t u) (ifS fc f g) := ⟨ps_if hc.pe ha.pe hb.pe, s_if hc.s ha.s hb.s⟩
theorem st_while {c : Expr} {body : List Stmt} {tc : TT} {fc : M Bool} (n : Nat) (hp : PassesOwn (model X.prog X.w) X.A X.env X.xe) (hc : EB X c tc fc) (hb : EL X body t f) : ES X (.While c body [] pos) (tWhile tc t) (whS fc f n) :=
  ⟨ps_while hp hc.pe hb.pe, s_while hc.s hb.s⟩
theorem st_for {tg iter : Expr} {body : List Stmt} {wi : TI} {tgt : TG} {L : List Nat} {it : M (List T)} {gg : T → Sls → Option Sls} (hp : PassesOwn (model X.prog X.w) X.A X.env X.xe) (hc : X.calm = true) (hi : EI X tg iter wi it) (hg : EG X tg tgt L gg) (hb : EL X body t f)
    (hs : ∀ x, foldedSetIterable iter X.env x = pure x := by intro _; rfl) : ES X (.For tg iter body [] pos) (tFor wi tgt t) (forS it gg f) := ⟨ps_for hp hc hi.pe hg.pe hb.pe hs, s_for hi.s hg.s hb.s⟩
theorem st_ix {x : Str} {i : Expr} {ti : TE} {fe fi : M T} {p tpos : Pos} (j : Nat) (hu : X.A.units + 1 < cLine) (he : EV X e te fe) (hi : EV X i ti fi) (hN : X.N[j]? = some x := by rfl) (hv : Vis X.env.scope x := by first | exact Or.inl rfl | exact Or.inr (Or.inl rfl) | exact Or.inr (Or.inr rfl))
    (hd : (x == ("__debug__" : Str)) = false := by decide) (hcd : (x == ("__classdict__" : Str)) = false := by decide)
    (ha : ∀ v, assign (.Subscript (.Name x p) i tpos) X.env v = (do
      let ov ← holding [v] (eval (.Name x p) X.env)
      let iv ← holding [v, ov] (eval i X.env)
      standAt tpos
      holding [v, ov, iv] (setItem ov iv v)
      release [v, ov, iv] []) := by intro _; rfl)
    (hs : swapsWithSole [.Subscript (.Name x p) i tpos] e pos.line X.env = pure false := by rfl) (hw : swappedStores [.Subscript (.Name x p) i tpos] e X.env = pure none := by rfl)
    (h1 : (assignEach [.Subscript (.Name x p) i tpos] X.env).map (·.2) = [assign (.Subscript (.Name x p) i tpos) X.env] := by rfl) :
    ES X (.Assign [.Subscript (.Name x p) i tpos] e pos) (tAsg te (gSub (tVar j) ti rSetG)) (ixS j fe fi) := ⟨ps_asg he.pe (pg_sub (pe_var hN hv hd hcd) hi.pe (set_G hu) ha) hs hw h1, s_ixS he.s hi.s⟩
/-- a, b = e -/
def tuS (fe : M T) (g : T → Sls → Option Sls) : Sls → Option Out := fun τ => (fe τ).bind fun p => (g p.1 p.2).map .nx
theorem st_tup {tg : Expr} {tgt : TG} {L : List Nat} {fe : M T} {gg : T → Sls → Option Sls} (he : EV X e te fe) (hg : EG X tg tgt L gg) (hs : swapsWithSole [tg] e pos.line X.env = pure false := by rfl) (hw : swappedStores [tg] e X.env = pure none := by rfl)
    (h1 : (assignEach [tg] X.env).map (·.2) = [assign tg X.env] := by rfl) : ES X (.Assign [tg] e pos) (tAsg te tgt) (tuS fe gg) := by
  refine ⟨ps_asg he.pe hg.pe hs hw h1, ?_⟩
  intro τ out σ H F D ee k c
  unfold tuS at ee
  obtain ⟨p, h1, ee⟩ := Option.bind_eq_some_iff.mp ee
  obtain ⟨τ1, h2, ee⟩ := Option.map_eq_some_iff.mp ee
  cases ee
  exact he.s τ p.2 p.1 σ H F _ h1 k fun v H1 F1 k1 s1 r1 => hg.s _ v p.2 τ1 σ H1 F1 _ h2 k1 r1 fun σ' k2 s2 _ _ => c σ' H1 F1 k2 (s1.trans s2)
/-- a, b = x, y: two local names -/
def parS (i j : Nat) (fa : M (List T)) : Sls → Option Out := fun τ => (fa τ).bind fun p => match p.1 with
  | [a, b] => (bnd p.2 i ⟨a, false⟩).bind fun τ1 => (bnd τ1 j ⟨b, false⟩).map .nx
  | _ => none
theorem st_par {i j : Nat} {x y : Str} {a b : Expr} {ta : TA} {fa : M (List T)} {px py pt : Pos} {kt k2 pt2} (hc : X.calm = true) (hN : X.N.Nodup) (hi : X.N[i]? = some x) (hj : X.N[j]? = some y) (hij : i ≠ j)
    (hx : X.env.scope.names.lookup x = some .local) (hy : X.env.scope.names.lookup y = some .local) (ha : EAV X [a, b] ta fa)
    (hw : swappedStores [.Tuple [.Name x px, .Name y py] kt pt] (.Tuple [a, b] k2 pt2) X.env = pure (some [x, y]))
    (hs : swapsWithSole [.Tuple [.Name x px, .Name y py] kt pt] (.Tuple [a, b] k2 pt2) pos.line X.env = pure false := by rfl) :
    ES X (.Assign [.Tuple [.Name x px, .Name y py] kt pt] (.Tuple [a, b] k2 pt2) pos) (tPar i j ta) (parS i j fa) := by
  refine ⟨ps_par hc hN hi hj hij hx hy ha.pe hw hs, ?_⟩
  intro τ out σ H F D ee k c
  unfold parS at ee
  obtain ⟨p, h1, ee⟩ := Option.bind_eq_some_iff.mp ee
  split at ee
  · rename_i d1 d2 hp
    obtain ⟨τ1, h2, ee⟩ := Option.bind_eq_some_iff.mp ee
    obtain ⟨τ2, h3, ee⟩ := Option.map_eq_some_iff.mp ee
    cases ee
    refine ha.s τ p.2 p.1 σ H F _ h1 k fun vs H1 F1 k1 s1 r1 => ?_
    rw [hp] at r1
    cases r1 with
    | cons a1 b1 =>
      cases b1 with
      | cons b1 n1 =>
        cases n1
        obtain ⟨k2, s2⟩ := bnd_ok (τ0 := p.2) (σ0 := σ) (H0 := H1) (F0 := F1) k1 .refl (.inl ⟨rfl, a1⟩) h2
        obtain ⟨k3, s3⟩ := bnd_ok (τ0 := p.2) (σ0 := σ) (H0 := H1) (F0 := F1) k2 s2 (.inl ⟨rfl, b1⟩) h3
        exact ⟨_, _, rfl, c _ H1 F1 k3 (s1.trans s3)⟩
  · cases ee

/-! ### targets -/
theorem g_name {i : Nat} {x : Str} (hN : X.N.Nodup) (hi : X.N[i]? = some x) (hx : Loc X.env.scope x) (hf : X.fn x = true ∨ X.env.scope.names.lookup x = some .local := by first | exact .inl rfl | exact .inr rfl) : EG X (.Name x pos) (gName i) [i] (gN i) :=
  ⟨pg_name hN hi hx hf, s_gN⟩
theorem gs_nil : EGs X [] gNil [] 0 gsNil := ⟨pgs_nil, s_gsNil⟩
theorem gs_cons {es : List Expr} {t : TG} {u : TGs} {L L' : List Nat} {n : Nat} {f : T → Sls → Option Sls} {g : List T → Sls → Option Sls} (h1 : EG X e t L f) (h2 : EGs X es u L' n g)
    (hs : (assignEach (e :: es) X.env).map (·.2) = assign e X.env :: (assignEach es X.env).map (·.2) := by rfl) : EGs X (e :: es) (gCons t u) (L ++ L') (n + 1) (gsCons f g) := ⟨pgs_cons h1.pe h2.pe hs, s_gsCons h1.s h2.s⟩
theorem g_tup {es : List Expr} {kk : Nat} {t : TGs} {L : List Nat} {n : Nat} {g : List T → Sls → Option Sls} (hc : X.calm = true) (h : EGs X es t L n g)
    (hn : (assignEach es X.env).length = n := by rfl) (hst : (assignEach es X.env).findIdx? (·.1) = none := by rfl) : EG X (.Tuple es kk pos) (gTup X.K n t) L (gT g) := ⟨pg_tup hc h.pe hn hst, s_gT h.s⟩

/-! ### what is walked -/
theorem i_list {tg : Expr} {fe : M T} (he : EV X e te fe) : EI X tg e (iList X.K te) (lstI fe) := ⟨pi_list he.pe, s_lstI he.s⟩
theorem i_tup {tg : Expr} {fe : M T} (he : EV X e te fe) : EI X tg e (iTup X.K te) (tupI fe) := ⟨pi_tup he.pe, s_tupI he.s⟩
theorem i_rng1 {tg : Expr} {ta : TA} {fa : M (List (Sls → Option T))} {p : Pos} (hg : Gl X "range") (hm : X.mg "range" = none) (ha : EAO X [e] ta fa) (hs : starEach [e] X.env = [(false, eval e X.env)] := by rfl) :
    EI X tg (.Call (.Name "range" p) [e] [] pos) (iRng1 ta) (rng1 fa) := ⟨pi_range1 hg hm ha.pe hs, s_rng1 ha.s⟩
theorem i_rng2 {tg e2 : Expr} {ta : TA} {fa : M (List (Sls → Option T))} {p : Pos} (hg : Gl X "range") (hm : X.mg "range" = none) (ha : EAO X [e, e2] ta fa) (hs : starEach [e, e2] X.env = [(false, eval e X.env), (false, eval e2 X.env)] := by rfl) (hs2 : starEach [e2] X.env = [(false, eval e2 X.env)] := by rfl) :
    EI X tg (.Call (.Name "range" p) [e, e2] [] pos) (iRng2 ta) (rng2 fa) := ⟨pi_range2 hg hm ha.pe hs hs2, s_rng2 ha.s⟩
def enuT (i : Nat) : List T → List T
  | [] => []
  | d :: r => .tup [.int i, d] :: enuT (i + 1) r
theorem enuT_get : ∀ (ds : List T) (n i : Nat), (enuT n ds)[i]? = (ds[i]?).map fun d => .tup [.int ((n + i : Nat) : Int), d]
  | [], _, _ => by simp [enuT]
  | d :: r, n, 0 => by simp [enuT]
  | d :: r, n, i + 1 => by
    rw [enuT, List.getElem?_cons_succ, List.getElem?_cons_succ, enuT_get r (n + 1) i]
    have e : n + 1 + i = n + (i + 1) := by omega
    rw [e]
theorem enuT_length : ∀ (ds : List T) (n : Nat), (enuT n ds).length = ds.length
  | [], _ => rfl
  | _ :: r, n => congrArg Nat.succ (enuT_length r (n + 1))
def enuI (fa : M (List T)) : M (List T) := fun τ => (fa τ).bind fun p => match p.1 with
  | [d] => (d.seqL).map fun ds => (enuT 0 ds, p.2)
  | _ => none
theorem i_enum {ta : TA} {fa : M (List T)} {p tpos : Pos} {elts : List Expr} {kk : Nat} (hg : Gl X "enumerate") (hm : X.mg "enumerate" = none) (ha : EAV X [e] ta fa) (hs : starEach [e] X.env = [(false, eval e X.env)] := by rfl) :
    EI X (.Tuple elts kk tpos) (.Call (.Name "enumerate" p) [e] [] pos) (iEnum X.K ta) (enuI fa) := by
  refine ⟨pi_enum hg hm ha.pe hs, ?_⟩
  intro τ τ' ds σ H F R ee k c
  unfold enuI at ee
  obtain ⟨q, h1, ee⟩ := Option.bind_eq_some_iff.mp ee
  split at ee
  · rename_i d hq
    obtain ⟨es, h2, ee⟩ := Option.map_eq_some_iff.mp ee
    cases ee
    refine ha.s τ q.2 q.1 σ H F _ h1 k fun vs H1 F1 k1 s1 r1 => ?_
    rw [hq] at r1
    cases r1 with
    | cons a b =>
      cases b
      obtain ⟨aa, ws, rfl, hs, ra⟩ := Lk.seqL (H := F1) (fun _ _ z => z) (.inl a) h2
      refine ⟨aa, ws, rfl, k1.sub.seq hs, c _ H1 F1 k1 s1 ⟨fun H2 s2 => ⟨ws, s2.seq hs, by rw [enuT_length, ra.length]; exact Nat.le_refl _⟩, fun i d H2 F2 hi s2 s3 => ?_⟩⟩
      rw [enuT_get] at hi
      obtain ⟨d', hd, rfl⟩ := Option.map_eq_some_iff.mp hi
      obtain ⟨v, hv, rv⟩ := ra.get hd
      have hq2 : SqL X.K H2 aa ws := s3.seq (s2.seq hs)
      refine ⟨⟨ws, v, hq2, hv⟩, fun x H3 y => ?_⟩
      obtain ⟨T', x', rfl, hT, rfl, hx⟩ := y
      have hx' := hx ws hq2
      rw [hv] at hx'
      cases hx'
      have g := Grow.upd (o := .tup [.int (i : Nat), v]) s3 hT
      refine ⟨_, g, .tup upd_same (.cons ?_ (.one (rv.mono (s2.trans g.ff))))⟩
      rw [Nat.zero_add]
      exact .int _
  · cases ee

/-! ### comprehensions -/
structure ET (X : Cx) (ifs : List Expr) (tt : TT) (f : M Bool) : Prop where
  pe : PTs X ifs tt
  s : SB X.K tt f
def yesB : M Bool := fun τ => some (true, τ)
theorem t_nil : ET X [] tYes yesB := ⟨pts_nil, fun τ τ' b σ H F Q e k c => by cases e; exact c H F k .refl⟩
theorem t_one {c : Expr} {tt : TT} {f : M Bool} (h : EB X c tt f) : ET X [c] tt f := ⟨pts_one h.pe, h.s⟩
variable {elt tg iter : Expr} {ifs : List Expr} {scope : Scope} {own : List (Str × Nat)} {wi : TI} {gt : TG} {tt : TT} {L : List Nat} {it : M (List T)} {gg : T → Sls → Option Sls} {cnd : M Bool} {fe : M T}
theorem e_lc (hc : X.calm = true) (hN : X.N.Nodup) (hi : EI X tg iter wi it) (ok : BlkOk X.N X.env.scope scope own)
    (hg : ∀ (s : Shared) (H : Hp) (C : Addr) (cl : List (Str × Addr)) (fp : List Addr), EG (X.blk s H scope (compEnvC scope cl C X.env) fp) tg gt L gg) (ht : ∀ (s : Shared) (H : Hp) (C : Addr) (cl : List (Str × Addr)) (fp : List Addr), ET (X.blk s H scope (compEnvC scope cl C X.env) fp) ifs tt cnd)
    (he : ∀ (s : Shared) (H : Hp) (C : Addr) (cl : List (Str × Addr)) (fp : List Addr), EV (X.blk s H scope (compEnvC scope cl C X.env) fp) elt te fe) (hL : ∀ j ∈ L, j ∈ own.map (·.2)) (hs : ∀ x, foldedSetIterable iter X.env x = pure x := by intro _; rfl) :
    EE X (.ListComp elt [⟨tg, iter, ifs, 0⟩] scope pos) (tLc wi gt tt te (own.map (·.2))) (lcE it gg cnd fe (own.map (·.2))) :=
  ⟨pe_lc hc hN hi.pe ok (fun s H C cl fp => (hg s H C cl fp).pe) (fun s H C cl fp => (ht s H C cl fp).pe) (fun s H C cl fp => (he s H C cl fp).pe) hs,
    lcL_run hi.s (hg X.s_0 X.H_0 0 [] []).s (ht X.s_0 X.H_0 0 [] []).s (he X.s_0 X.H_0 0 [] []).s hL⟩
/-- y = [..], y a local -/
theorem st_lc {i : Nat} {y : Str} {py spos : Pos} (hc : X.calm = true) (hN : X.N.Nodup) (hy : X.N[i]? = some y) (hyl : X.env.scope.names.lookup y = some .local)
    (hsw : swapsWith (.ListComp elt [⟨tg, iter, ifs, 0⟩] scope pos) (some (.Name y py)) spos.line X.env = pure true) (hi : EI X tg iter wi it) (ok : BlkOk X.N X.env.scope scope own)
    (hg : ∀ (s : Shared) (H : Hp) (C : Addr) (cl : List (Str × Addr)) (fp : List Addr), EG (X.blk s H scope (compEnvC scope cl C X.env) fp) tg gt L gg) (ht : ∀ (s : Shared) (H : Hp) (C : Addr) (cl : List (Str × Addr)) (fp : List Addr), ET (X.blk s H scope (compEnvC scope cl C X.env) fp) ifs tt cnd)
    (he : ∀ (s : Shared) (H : Hp) (C : Addr) (cl : List (Str × Addr)) (fp : List Addr), EV (X.blk s H scope (compEnvC scope cl C X.env) fp) elt te fe) (hL : ∀ j ∈ L, j ∈ own.map (·.2)) (hs : ∀ x, foldedSetIterable iter X.env x = pure x := by intro _; rfl) :
    ES X (.Assign [.Name y py] (.ListComp elt [⟨tg, iter, ifs, 0⟩] scope pos) spos) (tAsg (tLc wi gt tt te (own.map (·.2))) (gName i)) (asgS i (lcE it gg cnd fe (own.map (·.2)))) :=
  ⟨ps_setLc hc hN hy hyl hsw hi.pe ok (fun s H C cl fp => (hg s H C cl fp).pe) (fun s H C cl fp => (ht s H C cl fp).pe) (fun s H C cl fp => (he s H C cl fp).pe) hs,
    s_asg (lcL_run hi.s (hg X.s_0 X.H_0 0 [] []).s (ht X.s_0 X.H_0 0 [] []).s (he X.s_0 X.H_0 0 [] []).s hL)⟩
end
/-! ### slices, methods, calls -/
structure EP (X : Cx) (e : Option Expr) (t : TO) (f : M (Option Int)) : Prop where
  pe : PO X e t
  s : ∀ (τ τ' : Sls) (o : Option Int) (σ : L2.St) (H F : Hp) (Q : Option Int → Hp → Prop), f τ = some (o, τ') → Ok X.K F τ σ H → (∀ H' F', Ok X.K F' τ' σ H' → Stp τ σ H F τ' σ H' F' → Q o H') → t σ H Q
def noP : M (Option Int) := fun τ => some (none, τ)
def soP (f : M T) : M (Option Int) := fun τ => (f τ).bind fun p => match p.1 with
  | .int i => some (some i, p.2)
  | _ => none
def slE (fa : M (Sls → Option T)) (fl fh : M (Option Int)) : M R := fun τ => (fa τ).bind fun p => (fl p.2).bind fun l => (fh l.2).bind fun h => (p.1 h.2).bind fun d => (slG d l.1 h.1).map fun r => (r, h.2)
section
variable {X : Cx} {e : Expr} {te : TE} {pos p2 : Pos} {lo hi : Option Expr} {tl th : TO} {fa : M (Sls → Option T)} {fl fh : M (Option Int)}
theorem p_no : EP X none tNoPart noP := ⟨po_none, fun τ τ' o σ H F Q e k c => by cases e; exact c H F k .refl⟩
theorem p_so {f : M T} (h : EV X e te f) : EP X (some e) (tPart te) (soP f) := by
  refine ⟨po_some h.pe, fun τ τ' o σ H F Q e k c => ?_⟩
  unfold soP at e
  obtain ⟨p, h1, e⟩ := Option.bind_eq_some_iff.mp e
  split at e
  · rename_i i hp
    cases e
    refine h.s τ p.2 p.1 σ H F _ h1 k fun v H' F' k' s' r => ?_
    rw [hp] at r
    cases r
    exact ⟨i, rfl, c H' F' k' s'⟩
  · cases e
theorem e_sl (he : EO X e te fa) (hl : EP X lo tl fl) (hh : EP X hi th fh) : EE X (.Subscript e (.Slice lo hi none p2) pos) (tSl (rSlG X.K) te tl th) (slE fa fl fh) := by
  refine ⟨pe_slice sl_G he.pe hl.pe hh.pe, ?_⟩
  intro τ τ' res σ H F Q ee k c
  unfold slE at ee
  obtain ⟨p, h1, ee⟩ := Option.bind_eq_some_iff.mp ee
  obtain ⟨l, h2, ee⟩ := Option.bind_eq_some_iff.mp ee
  obtain ⟨h, h3, ee⟩ := Option.bind_eq_some_iff.mp ee
  obtain ⟨d, h4, ee⟩ := Option.bind_eq_some_iff.mp ee
  obtain ⟨r, h5, ee⟩ := Option.map_eq_some_iff.mp ee
  cases ee
  refine he.s τ p.2 p.1 σ H F _ h1 k fun v H1 F1 k1 s1 l1 => hl.s p.2 l.2 l.1 σ H1 F1 _ h2 k1 fun H2 F2 k2 s2 => hh.s l.2 h.2 h.1 σ H2 F2 _ h3 k2 fun H3 F3 k3 s3 => ?_
  refine s_sl v d l.1 h.1 _ F3 H3 Q h5 k3.sub (l1 _ _ _ _ k3 (s2.trans s3) h4) fun w H' F' g ro => ?_
  have st := s1.trans (s2.trans s3)
  exact c w H' F' (k3.grow g) (st.trans g.step) ((ro.ok k3 g).back st)
theorem e_met {es : List Expr} {ta : TA} {fs : M (List T)} {name : Str} {apos : Pos} {id : String} {r : V → List V → Hp → VK → Prop} {gm : List T → List T → Option (T × List T)} {x : Str} {px : Pos} (j : Nat) (slot : Slot "list" name id) (hty : typeOf (.builtin id) = pure (.type "method_descriptor")) (hm : MtR X id r) (hr : RMS X.K r gm)
    (ha : EAV X (e :: es) ta fs) (hN : X.N[j]? = some x := by rfl) (hv : Vis X.env.scope x := by first | exact Or.inl rfl | exact Or.inr (Or.inl rfl) | exact Or.inr (Or.inr rfl)) (hd : (x == ("__debug__" : Str)) = false := by decide)
    (hcd : (x == ("__classdict__" : Str)) = false := by decide)
    (hbase : attributeBase (.Name x px) name X.env (eval (.Name x px) X.env) = eval (.Name x px) X.env := by rfl)
    (hfew : ((backTo pos (starEach (e :: es) X.env)).all (fun x => !x.1) && (backToKw pos (keywordEach [] X.env)).all (fun x => x.1.isSome)
      && decide ((e :: es).length + ([] : List Keyword).length + (if ([] : List Keyword).isEmpty then 0 else 1) < 30)) = true := by rfl)
    (hline : (apos.endLine == pos.line) = true := by rfl) (hs : starEach (e :: es) X.env = (false, eval e X.env) :: starEach es X.env := by rfl) (hplain : (backTo pos (starEach es X.env)).any (·.1) = false := by rfl) :
    EE X (.Call (.Attribute (.Name x px) name apos) (e :: es) [] pos) (tBM X.K "list" r (tVar j) ta) (metE j gm fs) :=
  ⟨pe_bm PySem.F.plainAttrs_list slot hty hm (pe_var hN hv hd hcd) ha.pe hbase hfew hline hs hplain, s_met hr ha.s⟩
theorem e_met0 {name : Str} {apos : Pos} {id : String} {r : V → List V → Hp → VK → Prop} {gm : List T → List T → Option (T × List T)} {x : Str} {px : Pos} (j : Nat) (slot : Slot "list" name id) (hty : typeOf (.builtin id) = pure (.type "method_descriptor")) (hm : MtR X id r) (hr : RMS X.K r gm)
    (hN : X.N[j]? = some x := by rfl) (hv : Vis X.env.scope x := by first | exact Or.inl rfl | exact Or.inr (Or.inl rfl) | exact Or.inr (Or.inr rfl)) (hd : (x == ("__debug__" : Str)) = false := by decide)
    (hcd : (x == ("__classdict__" : Str)) = false := by decide)
    (hbase : attributeBase (.Name x px) name X.env (eval (.Name x px) X.env) = eval (.Name x px) X.env := by rfl) (hline : (apos.endLine == pos.line) = true := by rfl) :
    EE X (.Call (.Attribute (.Name x px) name apos) [] [] pos) (tBM0 X.K "list" r (tVar j)) (metE j gm nilV) := ⟨pe_bm0 PySem.F.plainAttrs_list slot hty hm (pe_var hN hv hd hcd) hbase hline, s_met0 hr⟩
/-- a def of the text, as callers need it -/
structure Fd (P : Program) (w : World) (K : PySem.W.Frag) (mg : Str → Option Value) (base : Heap) (k : Nat) (x : Str) (n : Nat) (fs : FnS) : Prop where
  ex : ∃ (f : Addr) (fd : FuncData) (ps : List Str), FnOk P w K mg base CX0 k f fd ps (spT K n fs) ∧ mg x = some (.ref f) ∧ PySem.W.keepIn K (.ref f) = true ∧ Binds K fd ps []
def LenC (n : Nat) (fa : M (List Ag)) : Prop := ∀ as τ τ', fa τ = some (as, τ') → as.length = n
theorem lenC_nil : LenC 0 nilC := fun as τ τ' e => by cases e; rfl
theorem lenC_cons {n : Nat} {f : M T} {g : M (List Ag)} (h : LenC n g) : LenC (n + 1) (consC f g) := fun as τ τ' e => by
  unfold consC at e
  obtain ⟨p, h1, e⟩ := Option.bind_eq_some_iff.mp e
  obtain ⟨q, h2, e⟩ := Option.map_eq_some_iff.mp e
  cases e
  exact congrArg Nat.succ (h _ _ _ h2)
theorem lenC_plc {n i : Nat} {g : M (List Ag)} (h : LenC n g) : LenC (n + 1) (plcC i g) := fun as τ τ' e => by
  unfold plcC at e
  obtain ⟨p, h1, e⟩ := Option.bind_eq_some_iff.mp e
  obtain ⟨q, h2, e⟩ := Option.map_eq_some_iff.mp e
  cases e
  exact congrArg Nat.succ (h _ _ _ h2)
theorem e_call {x : Str} {p : Pos} {es : List Expr} {ta : TA} {k n : Nat} {fs : FnS} {fc : M (List Ag)} (F : Fd X.prog X.w X.K X.mg X.base k x n fs) (hr : Room k X.A) (hg : Gl X x) (hl : LenC n fc) (ha : EAC X (e :: es) ta fc)
    (hdb : (x == ("__debug__" : Str)) = false := by decide) (he : starEach (e :: es) X.env = (false, eval e X.env) :: starEach es X.env := by rfl) (hpl : (backTo pos (starEach es X.env)).any (·.1) = false := by rfl) :
    EE X (.Call (.Name x p) (e :: es) [] pos) (tCall (spT X.K n fs) [] E0 ta) (callE fs fc) := by
  obtain ⟨f, fd, ps, ok, hm, hk, hb⟩ := F.ex
  exact ⟨pe_call ok hr hg hm hk hb .nil pass0 ha.pe hdb he hpl, s_call (fun e => hl _ _ _ e) ha.s⟩
end
/-- THE RULE for a def -/
theorem fd_of {P : Program} {w : World} {K : PySem.W.Frag} {mg : Str → Option Value} {base : Heap} {x qual : Str} {params : Arguments} {body : List Stmt} {scope : Scope} {f : Addr} {fd : FuncData} {N ps : List Str} {k n m : Nat} {g : Sls → Option Out}
    (F : FunD K x qual params body scope [] [] f fd) (S : FnScope N ps scope) (hm : mg x = some (.ref f)) (hbd : Binds K fd ps []) (hn : ps.length = n) (hN : N.length = n + m)
    (hb : ∀ (cdv : Value) (A : Around) (outer : List PySem.Env) (s : Shared) (H : Hp) (E : XK), Room k (A.deeper (PyProof.Rows.envOfC qual scope s.heap.objs.size f cdv)) → ∃ ts, EL (cxOf CX0 P w K mg base N qual scope f cdv A outer s H E).nox body ts g) :
    Fd P w K mg base (k + 1) x n (fnS m g) := by
  refine ⟨f, fd, ps, ?_, hm, F.kp, hbd⟩
  refine F.ok S (fun vs H Q E h => by rw [hn]; exact h.1) fun cdv A outer s H vs Q E hr h => ?_
  obtain ⟨ts, el⟩ := hb cdv A outer s H E hr
  exact ⟨ts, el.pe.nox, fn_run hN el.s h⟩
end TR

namespace TR
open PySem L2

theorem hu1 {k : Nat} {A : Around} (r : Room k A) : A.units + 1 < cLine := by have := r.un; omega
theorem hu65 {k : Nat} {A : Around} (r : Room k A) : A.units + 65 < cLine := by have := r.un; omega
section
variable {X : Cx} {a b e : Expr} {te ta : TE} {pos : Pos}
theorem e_one {op} {f : M R} (h : EE X a te f) : EE X (.BoolOp op [a] pos) te f := ⟨pe_one h.pe, h.s⟩

/-! ### xs[::-1] -/
def revG (a : T) : Option R := (a.seqL).map fun ds => ⟨.lst ds.reverse, true⟩
theorem e_rev {fa : M (Sls → Option T)} {k : Nat} {p1 p2 p3 : Pos} (ha : EO X e te fa) : EE X (.Subscript e (.Slice none none (some (.UnaryOp .USub (.Constant (.int 1) k p1) p2)) p3) pos) (tRevL X.K te) (unE revG fa) := by
  refine ⟨pe_revL ha.pe, ?_⟩
  intro τ τ' res σ H F Q e k c
  unfold unE at e
  obtain ⟨p, h1, e⟩ := Option.bind_eq_some_iff.mp e
  obtain ⟨x, h3, e⟩ := Option.bind_eq_some_iff.mp e
  obtain ⟨z, h5, e⟩ := Option.map_eq_some_iff.mp e
  cases e
  unfold revG at h5
  obtain ⟨ds, h6, h5⟩ := Option.map_eq_some_iff.mp h5
  subst h5
  refine ha.s τ p.2 p.1 σ H F _ h1 k fun v H1 F1 k1 s1 l1 => ?_
  obtain ⟨aa, vs, rfl, hs, ra⟩ := (l1 _ _ _ _ k1 .refl h3).seqL k1.sub h6
  refine ⟨aa, vs, rfl, hs, fun q hq => ?_⟩
  exact new_lst k1.sub hq ra.reverse fun v H' F' g ro => c v H' F' (k1.grow g) (s1.trans g.step) ((ro.ok k1 g).back s1)

/-! ### d.get(k, x) -/
def T.isD : T → Bool
  | .dic _ => true
  | .dit _ => true
  | _ => false
def get2E (j : Nat) (fa fb : M T) : M R := fun τ => (slT τ[j]?).bind fun d => if d.isD = true then (fa τ).bind fun p => (fb p.2).bind fun q => (slT q.2[j]?).bind fun c => (askT c p.1).map fun o => (⟨o.getD q.1, false⟩, q.2) else none
theorem e_get2 {f g : Expr} {tf tg : TE} {fa fb : M T} {x : Str} {px apos : Pos} (j : Nat) (hu : X.A.units + 1 < cLine) (ha : EV X f tf fa) (hb : EV X g tg fb) (hN : X.N[j]? = some x := by rfl) (hv : Vis X.env.scope x := by first | exact Or.inl rfl | exact Or.inr (Or.inl rfl) | exact Or.inr (Or.inr rfl)) (hd : (x == ("__debug__" : Str)) = false := by decide)
    (hcd : (x == ("__classdict__" : Str)) = false := by decide)
    (hbase : attributeBase (.Name x px) "get" X.env (eval (.Name x px) X.env) = eval (.Name x px) X.env := by rfl)
    (hfew : ((backTo pos (starEach [f, g] X.env)).all (fun x => !x.1) && (backToKw pos (keywordEach [] X.env)).all (fun x => x.1.isSome)
      && decide (([f, g] : List Expr).length + ([] : List Keyword).length + (if ([] : List Keyword).isEmpty then 0 else 1) < 30)) = true := by rfl)
    (hline : (apos.endLine == pos.line) = true := by rfl) (ht : backTo pos (starEach [f, g] X.env) = [(false, eval f X.env), (false, eval g X.env)] := by rfl) :
    EE X (.Call (.Attribute (.Name x px) "get" apos) [f, g] [] pos) (tDGet2 (tVar j) tf tg) (get2E j fa fb) := by
  refine ⟨pe_dget2 hu (pe_var hN hv hd hcd) ha.pe hb.pe ⟨hbase, hfew, hline, ht⟩, ?_⟩
  intro τ τ' res σ H F Q e k c
  unfold get2E at e
  obtain ⟨d, h0, e⟩ := Option.bind_eq_some_iff.mp e
  split at e
  · rename_i hz
    obtain ⟨p, h1, e⟩ := Option.bind_eq_some_iff.mp e
    obtain ⟨q, h2, e⟩ := Option.bind_eq_some_iff.mp e
    obtain ⟨c', h3, e⟩ := Option.bind_eq_some_iff.mp e
    obtain ⟨o, h4, e⟩ := Option.map_eq_some_iff.mp e
    cases e
    obtain ⟨w, hw, l0⟩ := slT_val k h0
    have hD : ∃ a, w = .ref a ∧ IsD H a := by
      cases d with
      | dic ds =>
        obtain ⟨a, kvs, e1, e2, _⟩ := l0.dic k.sub
        exact ⟨a, e1, .inl ⟨kvs, e2⟩⟩
      | dit ds =>
        obtain ⟨a, kvs, e1, e2, _⟩ := l0.dit k.sub
        exact ⟨a, e1, .inr ⟨kvs, .inl e2⟩⟩
      | _ => cases hz
    obtain ⟨a, ea, isd⟩ := hD
    refine ⟨w, hw, a, ea, isd, ha.s τ p.2 p.1 σ H F _ h1 k fun v1 H1 F1 k1 s1 r1 => hb.s p.2 q.2 q.1 σ H1 F1 _ h2 k1 fun v2 H2 F2 k2 s2 r2 => ?_⟩
    obtain ⟨w', hw', l2⟩ := slT_val k2 h3
    rw [hw] at hw'
    cases hw'
    obtain ⟨p', o', e1, g, g1, g2⟩ := dget_of k2.sub l2 (.inl (r1.mono s2.fr)) h4
    rw [ea] at e1
    cases e1
    refine ⟨o', g, ?_⟩
    have st := s1.trans s2
    cases o with
    | none =>
      rw [g2 rfl]
      exact c v2 H2 F2 k2 st (.inl ⟨rfl, r2⟩)
    | some d' =>
      obtain ⟨v, ev, rv⟩ := g1 d' rfl
      rw [ev]
      exact c v H2 F2 k2 st (.inl ⟨rfl, rv⟩)
  · cases e
end

/-! ### sorted(d), list(range(..)), gcd -/
def intKeys : List (T × T) → Option (List Int)
  | [] => some []
  | (.int i, _) :: r => (intKeys r).map (i :: ·)
  | _ => none
theorem intKeys_rp {K : PySem.W.Frag} {F : Hp} : ∀ {ds : List (T × T)} {ks : List Int} {kvs : List (Key × V)}, intKeys ds = some ks → RpK K F kvs ds → kvs.map (·.1) = ks.map Sum.inl
  | [], ks, kvs, e, a => by
    cases e; cases a; rfl
  | (k, d) :: r, ks, kvs, e, a => by
    cases a with
    | cons h t =>
      rename_i key v vs
      cases key with
      | inr x => unfold intKeys keyT at e; cases e
      | inl i =>
        unfold intKeys keyT at e
        obtain ⟨ms, h1, e⟩ := Option.map_eq_some_iff.mp e
        subst e
        rw [List.map_cons, List.map_cons, intKeys_rp h1 t]
def insI (i : Int) : List Int → List Int
  | [] => [i]
  | j :: r => if i ≤ j then i :: j :: r else j :: insI i r
def sortI : List Int → List Int
  | [] => []
  | i :: r => insI i (sortI r)
theorem insI_perm (i : Int) : ∀ l : List Int, (insI i l).Perm (i :: l)
  | [] => .refl _
  | j :: r => by
    unfold insI
    split
    · exact .refl _
    · exact ((insI_perm i r).cons j).trans (.swap _ _ _)
theorem sortI_perm : ∀ l : List Int, (sortI l).Perm l
  | [] => .refl _
  | i :: r => (insI_perm i _).trans ((sortI_perm r).cons i)
theorem insI_sorted (i : Int) : ∀ l : List Int, l.Pairwise (· ≤ ·) → (insI i l).Pairwise (· ≤ ·)
  | [], _ => by simp [insI]
  | j :: r, h => by
    unfold insI
    have h' := List.pairwise_cons.mp h
    split
    · rename_i hij
      refine List.pairwise_cons.mpr ⟨fun x hx => ?_, h⟩
      rcases List.mem_cons.mp hx with rfl | hx
      · exact hij
      · exact Int.le_trans hij (h'.1 x hx)
    · rename_i hij
      refine List.pairwise_cons.mpr ⟨fun x hx => ?_, insI_sorted i r h'.2⟩
      rcases List.mem_cons.mp ((insI_perm i r).mem_iff.mp hx) with rfl | hx
      · omega
      · exact h'.1 x hx
theorem sortI_sorted : ∀ l : List Int, (sortI l).Pairwise (· ≤ ·)
  | [] => .nil
  | i :: r => insI_sorted i _ (sortI_sorted r)
theorem sortI_uniq {l m : List Int} (hp : l.Perm m) (hs : l.Pairwise (· ≤ ·)) : l = sortI m :=
  (hp.trans (sortI_perm m).symm).eq_of_pairwise (le := (· ≤ ·)) (fun a b _ _ h1 h2 => Int.le_antisymm h1 h2) hs (sortI_sorted m)
def sortedDG (as : List T) : Option R := match as with
  | [.dic ds] => (intKeys ds).bind fun ks => if ks.length < 64 then some ⟨.lst ((sortI ks).map .int), true⟩ else none
  | _ => none
theorem s_sortedD {K : PySem.W.Frag} : RLS K (fun xs H Q => ∃ (a : Addr) (kvs : List (Key × V)) (ks : List Int), xs = [.ref a] ∧ Rd H a (.dK kvs) ∧ kvs.map (·.1) = ks.map Sum.inl ∧ ks.length < 64 ∧
    ∀ (ys : List Int) (p : Addr), ys.Perm ks → ys.Pairwise (· ≤ ·) → H p = none → Q (.ref p) (upd H p (.lst (ys.map V.int)))) sortedDG := by
  intro xs as res F H Q e s l c
  unfold sortedDG at e
  split at e
  · rename_i ds
    obtain ⟨ks, h1, e⟩ := Option.bind_eq_some_iff.mp e
    split at e
    · rename_i hz
      cases e
      obtain ⟨x, rfl, y⟩ := l.one
      obtain ⟨a, kvs, rfl, hd, ra⟩ := y.dic s
      refine ⟨a, kvs, ks, rfl, hd, intKeys_rp h1 ra, hz, fun ys p hp hs hn => ?_⟩
      rw [sortI_uniq hp hs]
      refine new_lst s hn (ds := (sortI ks).map T.int) (RpA.of_map_int _) c
    · cases e
  · cases e
def gcdG (as : List T) : Option R := match as with
  | [.int a, .int b] => some (ri ((Nat.gcd a.natAbs b.natAbs : Nat) : Int))
  | _ => none
theorem s_gcd {K : PySem.W.Frag} : RLS K rGcd gcdG := by
  intro xs as res F H Q e s l c
  unfold gcdG at e
  split at e
  · cases e
    obtain ⟨x, y, rfl, l1, l2⟩ := l.two
    rw [l1.int, l2.int]
    exact ⟨_, _, rfl, here s (.int _) c⟩
  · cases e
structure GcdOk (mg : Str → Option Value) : Prop where
  hm : mg "gcd" = some (.builtin "math.gcd")
section
variable {X : Cx} {e : Expr} {es : List Expr} {ta : TA} {pos p : Pos}
theorem e_gcd {f : M (List (Sls → Option T))} (G : GcdOk X.mg) (hg : Gl X "gcd") (ha : EAO X (e :: es) ta f) (he : starEach (e :: es) X.env = (false, eval e X.env) :: starEach es X.env := by rfl) (hpl : (backTo pos (starEach es X.env)).any (·.1) = false := by rfl) :
    EE X (.Call (.Name "gcd" p) (e :: es) [] pos) (tCB rGcd ta) (calE gcdG f) := ⟨pe_callBfun cr_gcd hg G.hm ha.pe (by decide) he hpl, s_cal s_gcd ha.s⟩
end
end TR

namespace TR
open PySem L2

/-! ### list(range(..)) -/
theorem rgV_rp {K : PySem.W.Frag} {F : Hp} : ∀ (n : Nat) (a : Int), RpA K F ((List.range n).map fun i => V.int (a + (i : Nat))) (rngT a n)
  | 0, _ => .nil
  | n + 1, a => by
    rw [List.range_succ_eq_map, List.map_cons, List.map_map, rngT]
    refine .cons (by rw [show a + ((0 : Nat) : Int) = a by simp]; exact .int _) ?_
    have e : ((fun i : Nat => V.int (a + (i : Nat))) ∘ Nat.succ) = fun i : Nat => V.int (a + 1 + (i : Nat)) := by
      funext i
      show V.int (a + ((i + 1 : Nat) : Int)) = _
      congr 1
      omega
    rw [e]
    exact rgV_rp n (a + 1)
def lrgOf (i j : Int) : Option R := if (rgOk i && rgOk j && decide ((j - i).toNat ≤ 2 ^ 24)) = true then some ⟨.lst (rngT i (j - i).toNat), true⟩ else none
theorem lrg_of {K : PySem.W.Frag} {F H : Hp} {i j : Int} {res : R} {Q : VK} (s : Same F H) (e : lrgOf i j = some res) (c : ∀ v H' F', Grow H F H' F' → RO K F' H' H v res → Q v H') :
    RgOk i j ∧ ∀ q, H q = none → Q (.ref q) (upd H q (.lst (rgV i j))) := by
  unfold lrgOf at e
  split at e
  · rename_i hz
    cases e
    have hz1 := Bool.and_eq_true_iff.mp hz
    have hz2 := Bool.and_eq_true_iff.mp hz1.1
    have hz := And.intro (And.intro (rgOk_spec hz2.1) (rgOk_spec hz2.2)) (of_decide_eq_true hz1.2)
    refine ⟨⟨hz.1.1.1, hz.1.1.2, hz.1.2.1, hz.1.2.2, hz.2⟩, fun q hq => new_lst s hq (rgV_rp _ _) c⟩
  · cases e
def lrgE1 (fa : M (Sls → Option T)) : M R := fun τ => (fa τ).bind fun p => (p.1 p.2).bind fun x => match x with
  | .int j => (lrgOf 0 j).map fun r => (r, p.2)
  | _ => none
def lrgE2 (fa fb : M (Sls → Option T)) : M R := fun τ => (fa τ).bind fun p => (fb p.2).bind fun q => (p.1 q.2).bind fun x => (q.1 q.2).bind fun y => match x with
  | .int i => match y with
    | .int j => (lrgOf i j).map fun r => (r, q.2)
    | _ => none
  | _ => none
section
variable {X : Cx} {a b : Expr} {ta tb : TE} {pos p pos2 : Pos} {fa fb : M (Sls → Option T)}
theorem e_listRg1 (hc : X.calm = true) (hg : Gl X "list") (hm : X.mg "list" = none) (hg2 : Gl X "range") (hm2 : X.mg "range" = none) (ha : EO X a ta fa) (na : starEach [a] X.env = (false, eval a X.env) :: starEach [] X.env := by rfl)
    (na2 : starEach [.Call (.Name "range" p) [a] [] pos2] X.env = (false, eval (.Call (.Name "range" p) [a] [] pos2) X.env) :: starEach [] X.env := by rfl) {p3 : Pos} :
    EE X (.Call (.Name "list" p3) [.Call (.Name "range" p) [a] [] pos2] [] pos) (tLstRg (tRg1 ta)) (lrgE1 fa) := by
  refine ⟨pe_listRg hc hg hm (prg_1 hg2 hm2 ha.pe na) na2, ?_⟩
  intro τ τ' res σ H F Q e k c
  unfold lrgE1 at e
  obtain ⟨q, h1, e⟩ := Option.bind_eq_some_iff.mp e
  obtain ⟨x, h2, e⟩ := Option.bind_eq_some_iff.mp e
  split at e
  · obtain ⟨r, h3, e⟩ := Option.map_eq_some_iff.mp e
    cases e
    refine ha.s τ q.2 q.1 σ H F _ h1 k fun v H1 F1 k1 s1 l1 => ?_
    rw [(l1 _ _ _ _ k1 .refl h2).int]
    exact ⟨_, rfl, lrg_of k1.sub h3 fun v H' F' g ro => c v H' F' (k1.grow g) (s1.trans g.step) ((ro.ok k1 g).back s1)⟩
  · cases e
theorem e_listRg2 (hc : X.calm = true) (hg : Gl X "list") (hm : X.mg "list" = none) (hg2 : Gl X "range") (hm2 : X.mg "range" = none) (ha : EO X a ta fa) (hb : EO X b tb fb) (na : starEach [a, b] X.env = (false, eval a X.env) :: starEach [b] X.env := by rfl) (nb : starEach [b] X.env = (false, eval b X.env) :: starEach [] X.env := by rfl)
    (hp : (backTo pos2 (starEach [b] X.env)).any (·.1) = false := by rfl)
    (na2 : starEach [.Call (.Name "range" p) [a, b] [] pos2] X.env = (false, eval (.Call (.Name "range" p) [a, b] [] pos2) X.env) :: starEach [] X.env := by rfl) {p3 : Pos} :
    EE X (.Call (.Name "list" p3) [.Call (.Name "range" p) [a, b] [] pos2] [] pos) (tLstRg (tRg2 ta tb)) (lrgE2 fa fb) := by
  refine ⟨pe_listRg hc hg hm (prg_2 hg2 hm2 ha.pe hb.pe na nb hp) na2, ?_⟩
  intro τ τ' res σ H F Q e k c
  unfold lrgE2 at e
  obtain ⟨q, h1, e⟩ := Option.bind_eq_some_iff.mp e
  obtain ⟨q2, h2, e⟩ := Option.bind_eq_some_iff.mp e
  obtain ⟨x, h3, e⟩ := Option.bind_eq_some_iff.mp e
  obtain ⟨y, h4, e⟩ := Option.bind_eq_some_iff.mp e
  split at e
  · split at e
    · obtain ⟨r, h5, e⟩ := Option.map_eq_some_iff.mp e
      cases e
      refine ha.s τ q.2 q.1 σ H F _ h1 k fun v H1 F1 k1 s1 l1 => hb.s q.2 q2.2 q2.1 σ H1 F1 _ h2 k1 fun u H2 F2 k2 s2 l2 => ?_
      rw [(l1 _ _ _ _ k2 s2 h3).int, (l2 _ _ _ _ k2 .refl h4).int]
      have st := s1.trans s2
      exact ⟨_, _, rfl, rfl, lrg_of k2.sub h5 fun v H' F' g ro => c v H' F' (k2.grow g) (st.trans g.step) ((ro.ok k2 g).back st)⟩
    · cases e
  · cases e
end

theorem wipe_wipe {σ : L2.St} {vs own : List Nat} (h : ∀ j ∈ vs, j ∈ own) : wipe (wipe σ vs) own = wipe σ own := wipe_eq (wipe_length _ _) h fun j hj => wipe_get hj

/-! ### {k: v for ..} -/
def dcL (g : T → Sls → Option Sls) (cnd : M Bool) (fk fv : M T) (own : List Nat) : List T → List (T × T) → Sls → Option (List (T × T) × Sls)
  | [], acc, τ => some (acc, τ)
  | d :: r, acc, τ => (g d τ).bind fun τ1 => (cnd τ1).bind fun p =>
      if p.1 = true then (fk p.2).bind fun q => (fv q.2).bind fun z => if ((keyOf q.1).isSome && decide (acc.length < sizeLine)) = true then dcL g cnd fk fv own r (putT acc q.1 z.1) (wipeT own z.2) else none
      else dcL g cnd fk fv own r acc (wipeT own p.2)
def dcE (it : M (List T)) (g : T → Sls → Option Sls) (cnd : M Bool) (fk fv : M T) (own : List Nat) : M R := fun τ =>
  (it τ).bind fun p => (dcL g cnd fk fv own p.1 [] (wipeT own p.2)).bind fun q => some (⟨.dic q.1, true⟩, restT own p.2 q.2)
theorem dcL_run {K : PySem.W.Frag} {wi : TI} {t : TG} {L own : List Nat} {tt : TT} {tk tv : TE} {it : M (List T)} {g : T → Sls → Option Sls} {cnd : M Bool} {fk fv : M T} (hi : SI K wi it) (hg : SG K L t g) (ht : SB K tt cnd) (hk : SV K tk fk) (he : SV K tv fv) (hL : ∀ j ∈ L, j ∈ own) :
    SE K (tDc wi t tt tk tv own) (dcE it g cnd fk fv own) := by
  intro τ τ' res σ H F Q e k c
  unfold dcE at e
  obtain ⟨p, h1, e⟩ := Option.bind_eq_some_iff.mp e
  obtain ⟨q, h2, e⟩ := Option.bind_eq_some_iff.mp e
  obtain ⟨ds, τ1⟩ := p
  obtain ⟨ys, τe⟩ := q
  dsimp only at h2 e
  cases e
  refine hi τ τ1 ds σ H F _ h1 k fun J H1 F1 k1 s1 y1 D hD => ?_
  obtain ⟨fD, rD⟩ := k1.fresh hD
  have rD0 : ¬ IsRoot (wipeT own τ1) (wipe σ own) D := fun ⟨j, r⟩ => rD ⟨j, (wipeT_rootAt r).2⟩
  refine ⟨fun i m H' => m = ds.length - i ∧ i ≤ ds.length ∧ ∃ (τ' : Sls) (F' : Hp) (vs : List (Key × V)) (acc : List (T × T)), Ok K F' τ' (wipe σ own) H' ∧ Stp (wipeT own τ1) (wipe σ own) H1 F1 τ' (wipe σ own) H' F' ∧ F' D = none ∧ H' D = some (.dK vs) ∧ ¬ IsRoot τ' (wipe σ own) D ∧
    RpK K F' vs acc ∧ dcL g cnd fk fv own (ds.drop i) acc τ' = some (ys, τe) ∧ Same F1 F',
    ⟨_, rfl, Nat.zero_le _, wipeT own τ1, F1, [], [], (k1.wipe).mut fD rD0, Stp.refl.mut hD, fD, upd_same, rD0, .nil, h2, fun _ _ z => z⟩, ?_⟩
  rintro i m H' ⟨rfl, hle, τ', F', vs, acc, k', s', fD', hD', rD', ra, e', sF⟩
  by_cases hlt : i < ds.length
  · have hd : ds[i]? = some ds[i] := List.getElem?_eq_getElem hlt
    rw [List.drop_eq_getElem_cons hlt, dcL] at e'
    obtain ⟨τ2, h3, e'⟩ := Option.bind_eq_some_iff.mp e'
    obtain ⟨b, h4, e'⟩ := Option.bind_eq_some_iff.mp e'
    obtain ⟨go, yl⟩ := y1.2 i _ H' F' hd sF k'.sub
    refine .inr ⟨go, fun H3 => ∃ (τ' : Sls) (F' : Hp) (vs : List (Key × V)) (acc : List (T × T)), Ok K F' τ' (wipe σ own) H3 ∧ Stp (wipeT own τ1) (wipe σ own) H1 F1 τ' (wipe σ own) H3 F' ∧ F' D = none ∧ H3 D = some (.dK vs) ∧ ¬ IsRoot τ' (wipe σ own) D ∧
      RpK K F' vs acc ∧ dcL g cnd fk fv own (ds.drop (i + 1)) acc τ' = some (ys, τe) ∧ Same F1 F', fun H3 w => ⟨_, by omega, rfl, hlt, w⟩, fun x H2 y => ?_⟩
    obtain ⟨F2, g2, r2⟩ := yl x H2 y
    refine hg _ x τ' τ2 _ H2 F2 _ h3 (k'.grow g2) r2 fun σ4 k4 s4 l4 o4 => ?_
    have ew : wipe σ4 own = wipe σ own := (wipe_eq l4 hL o4).trans (wipe_wipe fun _ h => h)
    refine ⟨ew, ?_⟩
    have st4 : Stp (wipeT own τ1) (wipe σ own) H1 F1 τ2 σ4 H2 F2 := s'.trans (g2.step.trans s4)
    have d4 := (g2.step (τ := τ') (σ := wipe σ own) |>.trans s4).free2 fD' hD' rD'
    refine ht τ2 b.2 b.1 σ4 H2 F2 _ h4 k4 fun H5 F5 k5 s5 => ?_
    have st5 := st4.trans s5
    have d5 := s5.free2 d4.1 d4.2.1 d4.2.2
    by_cases hb : b.1 = true
    · rw [if_pos hb] at e' ⊢
      obtain ⟨z, h5, e'⟩ := Option.bind_eq_some_iff.mp e'
      obtain ⟨w, h6, e'⟩ := Option.bind_eq_some_iff.mp e'
      split at e'
      · rename_i hz
        rw [Bool.and_eq_true, decide_eq_true_eq] at hz
        obtain ⟨kk, hkk⟩ := Option.isSome_iff_exists.mp hz.1
        have ek := keyOf_eq hkk
        refine hk b.2 z.2 z.1 σ4 H5 F5 _ h5 k5 fun y6 H6 F6 k6 s6 r6 => he z.2 w.2 w.1 σ4 H6 F6 _ h6 k6 fun v7 H7 F7 k7 s7 r7 => ?_
        have st7 := st5.trans (s6.trans s7)
        have d7 := (s6.trans s7).free2 d5.1 d5.2.1 d5.2.2
        have rw7 : ¬ IsRoot (wipeT own w.2) (wipe σ4 own) D := fun ⟨j, r⟩ => d7.2.2 ⟨j, (wipeT_rootAt r).2⟩
        have eu : y6 = kV kk := by
          rw [ek] at r6
          cases kk with
          | inl i => cases r6; rfl
          | inr x => cases r6; rfl
        have ra7 := ra.mono (g2.ff.trans (s4.fr.trans (s5.fr.trans (s6.fr.trans s7.fr))))
        refine ⟨vs, kk, eu, d7.2.1, by rw [ra.length]; exact hz.2, wipeT own w.2, F7, putK vs kk v7, putT acc z.1 w.1, ?_, ?_, d7.1, upd_same, by rw [← ew]; exact rw7, ?_, e', sF.trans (g2.ff.trans (s4.fr.trans (s5.fr.trans (s6.fr.trans s7.fr))))⟩
        · rw [← ew]
          exact (k7.wipe).mut d7.1 rw7
        · have := st7.wipe
          rw [ew] at this
          exact this.mut hD
        · rw [ek]
          exact ra7.put r7
      · cases e'
    · rw [if_neg hb] at e' ⊢
      have rw5 : ¬ IsRoot (wipeT own b.2) (wipe σ4 own) D := fun ⟨j, r⟩ => d5.2.2 ⟨j, (wipeT_rootAt r).2⟩
      refine ⟨wipeT own b.2, F5, vs, acc, ?_, ?_, d5.1, d5.2.1, by rw [← ew]; exact rw5, ra.mono (g2.ff.trans (s4.fr.trans s5.fr)), e', sF.trans (g2.ff.trans (s4.fr.trans s5.fr))⟩
      · rw [← ew]
        exact k5.wipe
      · have := st5.wipe
        rw [ew] at this
        exact this
  · have hi : i = ds.length := by omega
    subst hi
    rw [List.drop_length, dcL] at e'
    cases e'
    obtain ⟨k2, s2⟩ := rest_ok k1 k' s'
    have st := s1.trans s2
    refine .inl ⟨y1.1 H' (sF.trans k'.sub), c (.ref D) H' F' k2 st (.inr ⟨rfl, D, rfl, fD', fun z => ?_, .inl (s1.free hD), vs, hD', ra⟩)⟩
    rcases rest_root (by rw [k'.len, wipe_length, k1.len]) z with z | z
    · exact rD z
    · exact rD' z
section
variable {X : Cx} {pos : Pos} {kx vx tg iter : Expr} {ifs : List Expr} {scope : Scope} {own : List (Str × Nat)} {wi : TI} {gt : TG} {tt : TT} {L : List Nat} {it : M (List T)} {gg : T → Sls → Option Sls} {cnd : M Bool} {fk fv : M T} {tk tv : TE}
theorem e_dc (hc : X.calm = true) (hN : X.N.Nodup) (hi : EI X tg iter wi it) (ok : BlkOk X.N X.env.scope scope own)
    (hg : ∀ (s : Shared) (H : Hp) (C : Addr) (cl : List (Str × Addr)) (fp : List Addr), EG (X.blk s H scope (compEnvC scope cl C X.env) fp) tg gt L gg) (ht : ∀ (s : Shared) (H : Hp) (C : Addr) (cl : List (Str × Addr)) (fp : List Addr), ET (X.blk s H scope (compEnvC scope cl C X.env) fp) ifs tt cnd)
    (hk : ∀ (s : Shared) (H : Hp) (C : Addr) (cl : List (Str × Addr)) (fp : List Addr), EV (X.blk s H scope (compEnvC scope cl C X.env) fp) kx tk fk)
    (he : ∀ (s : Shared) (H : Hp) (C : Addr) (cl : List (Str × Addr)) (fp : List Addr), EV (X.blk s H scope (compEnvC scope cl C X.env) fp) vx tv fv) (hL : ∀ j ∈ L, j ∈ own.map (·.2)) (hs : ∀ x, foldedSetIterable iter X.env x = pure x := by intro _; rfl) :
    EE X (.DictComp kx vx [⟨tg, iter, ifs, 0⟩] scope pos) (tDc wi gt tt tk tv (own.map (·.2))) (dcE it gg cnd fk fv (own.map (·.2))) :=
  ⟨pe_dc hc hN hi.pe ok (fun s H C cl fp => (hg s H C cl fp).pe) (fun s H C cl fp => (ht s H C cl fp).pe) (fun s H C cl fp => (hk s H C cl fp).pe) (fun s H C cl fp => (he s H C cl fp).pe) hs,
    dcL_run hi.s (hg X.s_0 X.H_0 0 [] []).s (ht X.s_0 X.H_0 0 [] []).s (hk X.s_0 X.H_0 0 [] []).s (he X.s_0 X.H_0 0 [] []).s hL⟩
end
end TR

namespace TR
open PySem L2

/-! ### [e for .. for ..] -/
theorem Stp.wipe2 {own vs : List Nat} {τ0 τ1 : Sls} {σ0 σ' : L2.St} {H H1 F F1 : Hp} (hv : ∀ j ∈ vs, j ∈ own) (s : Stp (wipeT own τ0) (L2.wipe σ0 own) H F τ1 σ' H1 F1) : Stp (wipeT own τ0) (L2.wipe σ0 own) H F (wipeT vs τ1) (L2.wipe σ' vs) H1 F1 := by
  refine ⟨s.keep, s.dom, s.fr, s.new, fun p ⟨j, r⟩ => s.rt p ⟨j, (wipeT_rootAt r).2⟩, fun i d h => ?_⟩
  obtain ⟨⟨d', e1⟩, e2⟩ := s.ln i d h
  have hi : i ∉ own := fun z => by
    rw [wipeT_get] at h
    obtain ⟨s', e, h⟩ := Option.map_eq_some_iff.mp h
    rw [if_pos (by simpa using z)] at h
    cases h
  have hi : i ∉ vs := fun z => hi (hv i z)
  refine ⟨⟨d', ?_⟩, ?_⟩
  · rw [wipeT_get, e1, Option.map_some, if_neg (by simpa using hi)]
  · rw [wipe_get hi]
    exact e2
theorem inner_run {K : PySem.W.Frag} {t : TG} {L own vs1 : List Nat} {tt : TT} {te : TE} {g : T → Sls → Option Sls} {cnd : M Bool} {elt : M T} (hg : SG K L t g) (ht : SB K tt cnd) (he : SV K te elt) (hL : ∀ j ∈ L, j ∈ vs1) (hv : ∀ j ∈ vs1, j ∈ own)
    {τb τ3 τe : Sls} {σb σ2 : L2.St} {Hb Fb H4 F4 : Hp} {D : Addr} {J : It} {es ws acc0 : List T} {vs0 : List V} {Nx : Hp → Prop} (y1 : Yld K J F4 es) (k : Ok K F4 τ3 σ2 H4) (s : Stp (wipeT own τb) (wipe σb own) Hb Fb τ3 σ2 H4 F4) (hDb : Hb D = none)
    (fD : F4 D = none) (hD : H4 D = some (.lst vs0)) (rD : ¬ IsRoot τ3 σ2 D) (ra0 : RpA K F4 vs0 acc0) (e : lcL g cnd elt vs1 es (wipeT vs1 τ3) = some (ws, τe)) (hz : acc0.length + ws.length ≤ sizeLine)
    (c : ∀ (H' F' : Hp) (vs : List V), Ok K F' τe (wipe σ2 vs1) H' → Stp (wipeT own τb) (wipe σb own) Hb Fb τe (wipe σ2 vs1) H' F' → F' D = none → H' D = some (.lst vs) → ¬ IsRoot τe (wipe σ2 vs1) D → RpA K F' vs (acc0 ++ ws) → Same F4 F' → Nx H') :
    ∃ W1 : Nat → Nat → Hp → Prop, (∃ m, W1 0 m H4) ∧ ∀ j k H, W1 j k H →
      (J.stop j H ∧ Nx H) ∨ (J.go j H ∧ ∃ Nx1 : Hp → Prop, (∀ H', Nx1 H' → ∃ k', k' < k ∧ W1 (j + 1) k' H') ∧ ∀ x H', J.yld j H x H' → t x (wipe σ2 vs1) H' fun σ3 H5 => wipe σ3 vs1 = wipe σ2 vs1 ∧ tt σ3 H5 fun b H6 =>
        if b = true then te σ3 H6 fun y H7 => ∃ acc, H7 D = some (.lst acc) ∧ acc.length < sizeLine ∧ Nx1 (upd H7 D (.lst (acc ++ [y]))) else Nx1 H6) := by
  have rD0 : ¬ IsRoot (wipeT vs1 τ3) (wipe σ2 vs1) D := fun ⟨j, r⟩ => rD ⟨j, (wipeT_rootAt r).2⟩
  refine ⟨fun i m H' => m = es.length - i ∧ i ≤ es.length ∧ ∃ (τ' : Sls) (F' : Hp) (vs : List V) (acc rest : List T), Ok K F' τ' (wipe σ2 vs1) H' ∧ Stp (wipeT own τb) (wipe σb own) Hb Fb τ' (wipe σ2 vs1) H' F' ∧ F' D = none ∧ H' D = some (.lst vs) ∧ ¬ IsRoot τ' (wipe σ2 vs1) D ∧
    RpA K F' vs (acc0 ++ acc) ∧ acc ++ rest = ws ∧ lcL g cnd elt vs1 (es.drop i) τ' = some (rest, τe) ∧ Same F4 F',
    ⟨_, rfl, Nat.zero_le _, wipeT vs1 τ3, F4, vs0, [], ws, k.wipe, s.wipe2 hv, fD, hD, rD0, by rw [List.append_nil]; exact ra0, rfl, e, fun _ _ z => z⟩, ?_⟩
  rintro i m H' ⟨rfl, hle, τ', F', vs, acc, rest, k', s', fD', hD', rD', ra, er, e', sF⟩
  by_cases hlt : i < es.length
  · have hd : es[i]? = some es[i] := List.getElem?_eq_getElem hlt
    rw [List.drop_eq_getElem_cons hlt, lcL] at e'
    obtain ⟨τ2, h3, e'⟩ := Option.bind_eq_some_iff.mp e'
    obtain ⟨b, h4, e'⟩ := Option.bind_eq_some_iff.mp e'
    obtain ⟨go, yl⟩ := y1.2 i _ H' F' hd sF k'.sub
    refine .inr ⟨go, fun H3 => ∃ (τ' : Sls) (F' : Hp) (vs : List V) (acc rest : List T), Ok K F' τ' (wipe σ2 vs1) H3 ∧ Stp (wipeT own τb) (wipe σb own) Hb Fb τ' (wipe σ2 vs1) H3 F' ∧ F' D = none ∧ H3 D = some (.lst vs) ∧ ¬ IsRoot τ' (wipe σ2 vs1) D ∧
      RpA K F' vs (acc0 ++ acc) ∧ acc ++ rest = ws ∧ lcL g cnd elt vs1 (es.drop (i + 1)) τ' = some (rest, τe) ∧ Same F4 F', fun H3 w => ⟨_, by omega, rfl, hlt, w⟩, fun x H2 y => ?_⟩
    obtain ⟨F2, g2, r2⟩ := yl x H2 y
    refine hg _ x τ' τ2 _ H2 F2 _ h3 (k'.grow g2) r2 fun σ4 k4 s4 l4 o4 => ?_
    have ew : wipe σ4 vs1 = wipe σ2 vs1 := (wipe_eq l4 hL o4).trans (wipe_wipe fun _ h => h)
    refine ⟨ew, ?_⟩
    have st4 := s'.trans (g2.step.trans s4)
    have d4 := (g2.step (τ := τ') (σ := wipe σ2 vs1) |>.trans s4).free2 fD' hD' rD'
    refine ht τ2 b.2 b.1 σ4 H2 F2 _ h4 k4 fun H5 F5 k5 s5 => ?_
    have st5 := st4.trans s5
    have d5 := s5.free2 d4.1 d4.2.1 d4.2.2
    by_cases hb : b.1 = true
    · rw [if_pos hb] at e' ⊢
      obtain ⟨z, h5, e'⟩ := Option.bind_eq_some_iff.mp e'
      obtain ⟨w, h6, e'⟩ := Option.map_eq_some_iff.mp e'
      obtain ⟨ws', τw⟩ := w
      cases e'
      refine he b.2 z.2 z.1 σ4 H5 F5 _ h5 k5 fun v H6 F6 k6 s6 r6 => ?_
      have st6 := st5.trans s6
      have d6 := s6.free2 d5.1 d5.2.1 d5.2.2
      have rw6 : ¬ IsRoot (wipeT vs1 z.2) (wipe σ4 vs1) D := fun ⟨j, r⟩ => d6.2.2 ⟨j, (wipeT_rootAt r).2⟩
      have la : (acc0 ++ acc).length < sizeLine := by
        have : acc.length + (ws'.length + 1) = ws.length := by rw [← er]; simp
        rw [List.length_append]
        omega
      refine ⟨vs, d6.2.1, by rw [ra.length]; exact la, wipeT vs1 z.2, F6, vs ++ [v], acc ++ [z.1], ws', ?_, ?_, d6.1, upd_same, by rw [← ew]; exact rw6, ?_, by rw [← er]; simp, h6, sF.trans (g2.ff.trans (s4.fr.trans (s5.fr.trans s6.fr)))⟩
      · rw [← ew]
        exact (k6.wipe).mut d6.1 rw6
      · have := st6.wipe2 hv
        rw [ew] at this
        exact this.mut hDb
      · rw [← List.append_assoc]
        exact (ra.mono (g2.ff.trans (s4.fr.trans (s5.fr.trans s6.fr)))).append (.one r6)
    · rw [if_neg hb] at e' ⊢
      have rw5 : ¬ IsRoot (wipeT vs1 b.2) (wipe σ4 vs1) D := fun ⟨j, r⟩ => d5.2.2 ⟨j, (wipeT_rootAt r).2⟩
      refine ⟨wipeT vs1 b.2, F5, vs, acc, rest, ?_, ?_, d5.1, d5.2.1, by rw [← ew]; exact rw5, ra.mono (g2.ff.trans (s4.fr.trans s5.fr)), er, e', sF.trans (g2.ff.trans (s4.fr.trans s5.fr))⟩
      · rw [← ew]
        exact k5.wipe
      · have := st5.wipe2 hv
        rw [ew] at this
        exact this
  · have hi : i = es.length := by omega
    subst hi
    rw [List.drop_length, lcL] at e'
    cases e'
    rw [List.append_nil] at er
    subst er
    exact .inl ⟨y1.1 H' (sF.trans k'.sub), c H' F' vs k' s' fD' hD' rD' ra sF⟩
def lc2L (g : T → Sls → Option Sls) (cnd : M Bool) (it1 : M (List T)) (g1 : T → Sls → Option Sls) (cnd1 : M Bool) (elt : M T) (own vs1 : List Nat) : List T → Sls → Option (List T × Sls)
  | [], τ => some ([], τ)
  | d :: r, τ => (g d τ).bind fun τ1 => (cnd τ1).bind fun p =>
      if p.1 = true then (it1 p.2).bind fun q => (lcL g1 cnd1 elt vs1 q.1 (wipeT vs1 q.2)).bind fun w => (lc2L g cnd it1 g1 cnd1 elt own vs1 r (wipeT own w.2)).map fun z => (w.1 ++ z.1, z.2)
      else lc2L g cnd it1 g1 cnd1 elt own vs1 r (wipeT own p.2)
def lc2E (it : M (List T)) (g : T → Sls → Option Sls) (cnd : M Bool) (it1 : M (List T)) (g1 : T → Sls → Option Sls) (cnd1 : M Bool) (elt : M T) (own vs1 : List Nat) : M R := fun τ =>
  (it τ).bind fun p => (lc2L g cnd it1 g1 cnd1 elt own vs1 p.1 (wipeT own p.2)).bind fun q => if q.1.length ≤ sizeLine then some (⟨.lst q.1, true⟩, restT own p.2 q.2) else none
theorem lc2_run {K : PySem.W.Frag} {wi wi1 : TI} {t t1 : TG} {L L1 own vs1 : List Nat} {tt tt1 : TT} {te : TE} {it it1 : M (List T)} {g g1 : T → Sls → Option Sls} {cnd cnd1 : M Bool} {elt : M T} (hi : SI K wi it) (hg : SG K L t g) (ht : SB K tt cnd) (hi1 : SI K wi1 it1) (hg1 : SG K L1 t1 g1) (ht1 : SB K tt1 cnd1) (he : SV K te elt) (hL : ∀ j ∈ L, j ∈ own) (hL1 : ∀ j ∈ L1, j ∈ vs1) (hv : ∀ j ∈ vs1, j ∈ own) :
    SE K (tLc2 wi t tt wi1 t1 tt1 te own vs1) (lc2E it g cnd it1 g1 cnd1 elt own vs1) := by
  intro τ τ' res σ H F Q e k c
  unfold lc2E at e
  obtain ⟨p, h1, e⟩ := Option.bind_eq_some_iff.mp e
  obtain ⟨q, h2, e⟩ := Option.bind_eq_some_iff.mp e
  obtain ⟨ds, τ1⟩ := p
  obtain ⟨ys, τe⟩ := q
  dsimp only at h2 e
  split at e
  · rename_i hz
    cases e
    refine hi τ τ1 ds σ H F _ h1 k fun J H1 F1 k1 s1 y1 D hD => ?_
    obtain ⟨fD, rD⟩ := k1.fresh hD
    have rD0 : ¬ IsRoot (wipeT own τ1) (wipe σ own) D := fun ⟨j, r⟩ => rD ⟨j, (wipeT_rootAt r).2⟩
    refine ⟨fun i m H' => m = ds.length - i ∧ i ≤ ds.length ∧ ∃ (τ' : Sls) (F' : Hp) (vs : List V) (acc rest : List T), Ok K F' τ' (wipe σ own) H' ∧ Stp (wipeT own τ1) (wipe σ own) H1 F1 τ' (wipe σ own) H' F' ∧ F' D = none ∧ H' D = some (.lst vs) ∧ ¬ IsRoot τ' (wipe σ own) D ∧
      RpA K F' vs acc ∧ acc ++ rest = ys ∧ lc2L g cnd it1 g1 cnd1 elt own vs1 (ds.drop i) τ' = some (rest, τe) ∧ Same F1 F',
      ⟨_, rfl, Nat.zero_le _, wipeT own τ1, F1, [], [], ys, (k1.wipe).mut fD rD0, Stp.refl.mut hD, fD, upd_same, rD0, .nil, rfl, h2, fun _ _ z => z⟩, ?_⟩
    rintro i m H' ⟨rfl, hle, τ', F', vs, acc, rest, k', s', fD', hD', rD', ra, er, e', sF⟩
    by_cases hlt : i < ds.length
    · have hd : ds[i]? = some ds[i] := List.getElem?_eq_getElem hlt
      rw [List.drop_eq_getElem_cons hlt, lc2L] at e'
      obtain ⟨τ2, h3, e'⟩ := Option.bind_eq_some_iff.mp e'
      obtain ⟨b, h4, e'⟩ := Option.bind_eq_some_iff.mp e'
      obtain ⟨go, yl⟩ := y1.2 i _ H' F' hd sF k'.sub
      refine .inr ⟨go, fun H3 => ∃ (τ' : Sls) (F' : Hp) (vs : List V) (acc rest : List T), Ok K F' τ' (wipe σ own) H3 ∧ Stp (wipeT own τ1) (wipe σ own) H1 F1 τ' (wipe σ own) H3 F' ∧ F' D = none ∧ H3 D = some (.lst vs) ∧ ¬ IsRoot τ' (wipe σ own) D ∧
        RpA K F' vs acc ∧ acc ++ rest = ys ∧ lc2L g cnd it1 g1 cnd1 elt own vs1 (ds.drop (i + 1)) τ' = some (rest, τe) ∧ Same F1 F', fun H3 w => ⟨_, by omega, rfl, hlt, w⟩, fun x H2 y => ?_⟩
      obtain ⟨F2, g2, r2⟩ := yl x H2 y
      refine hg _ x τ' τ2 _ H2 F2 _ h3 (k'.grow g2) r2 fun σ4 k4 s4 l4 o4 => ?_
      have ew : wipe σ4 own = wipe σ own := (wipe_eq l4 hL o4).trans (wipe_wipe fun _ h => h)
      refine ⟨ew, ?_⟩
      have st4 : Stp (wipeT own τ1) (wipe σ own) H1 F1 τ2 σ4 H2 F2 := s'.trans (g2.step.trans s4)
      have d4 := (g2.step (τ := τ') (σ := wipe σ own) |>.trans s4).free2 fD' hD' rD'
      refine ht τ2 b.2 b.1 σ4 H2 F2 _ h4 k4 fun H5 F5 k5 s5 => ?_
      have st5 := st4.trans s5
      have d5 := s5.free2 d4.1 d4.2.1 d4.2.2
      by_cases hb : b.1 = true
      · rw [if_pos hb] at e' ⊢
        obtain ⟨qi, h5, e'⟩ := Option.bind_eq_some_iff.mp e'
        obtain ⟨w, h6, e'⟩ := Option.bind_eq_some_iff.mp e'
        obtain ⟨z, h7, e'⟩ := Option.map_eq_some_iff.mp e'
        obtain ⟨zs, τz⟩ := z
        cases e'
        obtain ⟨es, τ3⟩ := qi
        obtain ⟨ws, τw⟩ := w
        dsimp only at h6 h7 er
        refine hi1 b.2 τ3 es σ4 H5 F5 _ h5 k5 fun J1 H6 F6 k6 s6 y6 => ?_
        have st6 := st5.trans s6
        have d6 := s6.free2 d5.1 d5.2.1 d5.2.2
        have ff6 := g2.ff.trans (s4.fr.trans (s5.fr.trans s6.fr))
        have hsz : acc.length + ws.length ≤ sizeLine := by
          have : acc.length + (ws.length + zs.length) = ys.length := by rw [← er]; simp
          omega
        refine inner_run hg1 ht1 he hL1 hv y6 k6 st6 hD d6.1 d6.2.1 d6.2.2 (ra.mono ff6) h6 hsz fun H7 F7 vs7 k7 s7 f7 hD7 r7 ra7 sF7 => ?_
        have ew7 : wipe (wipe σ4 vs1) own = wipe σ own := (wipe_wipe hv).trans ew
        have rw7 : ¬ IsRoot (wipeT own τw) (wipe (wipe σ4 vs1) own) D := fun ⟨j, r⟩ => r7 ⟨j, (wipeT_rootAt r).2⟩
        rw [ew7] at rw7
        refine ⟨wipeT own τw, F7, vs7, acc ++ ws, zs, ?_, ?_, f7, hD7, rw7, ra7, by rw [← er]; simp, h7, sF.trans (ff6.trans sF7)⟩
        · rw [← ew7]
          exact k7.wipe
        · have := s7.wipe
          rw [ew7] at this
          exact this
      · rw [if_neg hb] at e' ⊢
        have rw5 : ¬ IsRoot (wipeT own b.2) (wipe σ4 own) D := fun ⟨j, r⟩ => d5.2.2 ⟨j, (wipeT_rootAt r).2⟩
        refine ⟨wipeT own b.2, F5, vs, acc, rest, ?_, ?_, d5.1, d5.2.1, by rw [← ew]; exact rw5, ra.mono (g2.ff.trans (s4.fr.trans s5.fr)), er, e', sF.trans (g2.ff.trans (s4.fr.trans s5.fr))⟩
        · rw [← ew]
          exact k5.wipe
        · have := st5.wipe
          rw [ew] at this
          exact this
    · have hi : i = ds.length := by omega
      subst hi
      rw [List.drop_length, lc2L] at e'
      cases e'
      rw [List.append_nil] at er
      subst er
      obtain ⟨k2, s2⟩ := rest_ok k1 k' s'
      have st := s1.trans s2
      refine .inl ⟨y1.1 H' (sF.trans k'.sub), c (.ref D) H' F' k2 st (.inr ⟨rfl, D, rfl, fD', fun z => ?_, .inl (s1.free hD), vs, hD', ra⟩)⟩
      rcases rest_root (by rw [k'.len, wipe_length, k1.len]) z with z | z
      · exact rD z
      · exact rD' z
  · cases e
section
variable {X : Cx} {pos : Pos} {elt tg iter tg1 iter1 : Expr} {ifs ifs1 : List Expr} {scope : Scope} {own : List (Str × Nat)} {wi wi1 : TI} {gt gt1 : TG} {tt tt1 : TT} {L L1 vs1 : List Nat} {it it1 : M (List T)} {gg gg1 : T → Sls → Option Sls} {cnd cnd1 : M Bool} {fe : M T} {te : TE}
theorem e_lc2 (hc : X.calm = true) (hN : X.N.Nodup) (hi : EI X tg iter wi it) (ok : BlkOk X.N X.env.scope scope own) (hv : ∀ i ∈ vs1, i ∈ own.map (·.2))
    (hg : ∀ (s : Shared) (H : Hp) (C : Addr) (cl : List (Str × Addr)) (fp : List Addr), EG (X.blk s H scope (compEnvC scope cl C X.env) fp) tg gt L gg) (ht : ∀ (s : Shared) (H : Hp) (C : Addr) (cl : List (Str × Addr)) (fp : List Addr), ET (X.blk s H scope (compEnvC scope cl C X.env) fp) ifs tt cnd)
    (hi1 : ∀ (s : Shared) (H : Hp) (C : Addr) (cl : List (Str × Addr)) (fp : List Addr), EI (X.blk s H scope (compEnvC scope cl C X.env) fp) tg1 iter1 wi1 it1)
    (hg1 : ∀ (s : Shared) (H : Hp) (C : Addr) (cl : List (Str × Addr)) (fp : List Addr), EG (X.blk s H scope (compEnvC scope cl C X.env) fp) tg1 gt1 L1 gg1) (ht1 : ∀ (s : Shared) (H : Hp) (C : Addr) (cl : List (Str × Addr)) (fp : List Addr), ET (X.blk s H scope (compEnvC scope cl C X.env) fp) ifs1 tt1 cnd1)
    (he : ∀ (s : Shared) (H : Hp) (C : Addr) (cl : List (Str × Addr)) (fp : List Addr), EV (X.blk s H scope (compEnvC scope cl C X.env) fp) elt te fe) (hL : ∀ j ∈ L, j ∈ own.map (·.2)) (hL1 : ∀ j ∈ L1, j ∈ vs1)
    (hs : ∀ x, foldedSetIterable iter X.env x = pure x := by intro _; rfl) (hs1 : ∀ env x, foldedSetIterable iter1 env x = pure x := by intro _ _; rfl) :
    EE X (.ListComp elt [⟨tg, iter, ifs, 0⟩, ⟨tg1, iter1, ifs1, 0⟩] scope pos) (tLc2 wi gt tt wi1 gt1 tt1 te (own.map (·.2)) vs1) (lc2E it gg cnd it1 gg1 cnd1 fe (own.map (·.2)) vs1) :=
  ⟨pe_lc2 hc hN hi.pe ok hv (fun s H C cl fp => (hg s H C cl fp).pe) (fun s H C cl fp => (ht s H C cl fp).pe) (fun s H C cl fp => (hi1 s H C cl fp).pe) (fun s H C cl fp => (hg1 s H C cl fp).pe) (fun s H C cl fp => (ht1 s H C cl fp).pe) (fun s H C cl fp => (he s H C cl fp).pe) hs hs1,
    lc2_run hi.s (hg X.s_0 X.H_0 0 [] []).s (ht X.s_0 X.H_0 0 [] []).s (hi1 X.s_0 X.H_0 0 [] []).s (hg1 X.s_0 X.H_0 0 [] []).s (ht1 X.s_0 X.H_0 0 [] []).s (he X.s_0 X.H_0 0 [] []).s hL hL1 hv⟩
theorem st_lc2 {i : Nat} {y : Str} {py spos : Pos} (hc : X.calm = true) (hN : X.N.Nodup) (hy : X.N[i]? = some y) (hyl : X.env.scope.names.lookup y = some .local)
    (hsw : swapsWith (.ListComp elt [⟨tg, iter, ifs, 0⟩, ⟨tg1, iter1, ifs1, 0⟩] scope pos) (some (.Name y py)) spos.line X.env = pure true) (hi : EI X tg iter wi it) (ok : BlkOk X.N X.env.scope scope own) (hv : ∀ i ∈ vs1, i ∈ own.map (·.2))
    (hg : ∀ (s : Shared) (H : Hp) (C : Addr) (cl : List (Str × Addr)) (fp : List Addr), EG (X.blk s H scope (compEnvC scope cl C X.env) fp) tg gt L gg) (ht : ∀ (s : Shared) (H : Hp) (C : Addr) (cl : List (Str × Addr)) (fp : List Addr), ET (X.blk s H scope (compEnvC scope cl C X.env) fp) ifs tt cnd)
    (hi1 : ∀ (s : Shared) (H : Hp) (C : Addr) (cl : List (Str × Addr)) (fp : List Addr), EI (X.blk s H scope (compEnvC scope cl C X.env) fp) tg1 iter1 wi1 it1)
    (hg1 : ∀ (s : Shared) (H : Hp) (C : Addr) (cl : List (Str × Addr)) (fp : List Addr), EG (X.blk s H scope (compEnvC scope cl C X.env) fp) tg1 gt1 L1 gg1) (ht1 : ∀ (s : Shared) (H : Hp) (C : Addr) (cl : List (Str × Addr)) (fp : List Addr), ET (X.blk s H scope (compEnvC scope cl C X.env) fp) ifs1 tt1 cnd1)
    (he : ∀ (s : Shared) (H : Hp) (C : Addr) (cl : List (Str × Addr)) (fp : List Addr), EV (X.blk s H scope (compEnvC scope cl C X.env) fp) elt te fe) (hL : ∀ j ∈ L, j ∈ own.map (·.2)) (hL1 : ∀ j ∈ L1, j ∈ vs1)
    (hs : ∀ x, foldedSetIterable iter X.env x = pure x := by intro _; rfl) (hs1 : ∀ env x, foldedSetIterable iter1 env x = pure x := by intro _ _; rfl) :
    ES X (.Assign [.Name y py] (.ListComp elt [⟨tg, iter, ifs, 0⟩, ⟨tg1, iter1, ifs1, 0⟩] scope pos) spos) (tAsg (tLc2 wi gt tt wi1 gt1 tt1 te (own.map (·.2)) vs1) (gName i)) (asgS i (lc2E it gg cnd it1 gg1 cnd1 fe (own.map (·.2)) vs1)) :=
  ⟨ps_setLc2 hc hN hy hyl hsw hi.pe ok hv (fun s H C cl fp => (hg s H C cl fp).pe) (fun s H C cl fp => (ht s H C cl fp).pe) (fun s H C cl fp => (hi1 s H C cl fp).pe) (fun s H C cl fp => (hg1 s H C cl fp).pe) (fun s H C cl fp => (ht1 s H C cl fp).pe) (fun s H C cl fp => (he s H C cl fp).pe) hs hs1,
    s_asg (lc2_run hi.s (hg X.s_0 X.H_0 0 [] []).s (ht X.s_0 X.H_0 0 [] []).s (hi1 X.s_0 X.H_0 0 [] []).s (hg1 X.s_0 X.H_0 0 [] []).s (ht1 X.s_0 X.H_0 0 [] []).s (he X.s_0 X.H_0 0 [] []).s hL hL1 hv)⟩
end
end TR

namespace TR
open PySem L2

/-! ### a dict under lock -/
def Swp (u u' : HO) : Prop := ∃ od kvs, (u = .dK kvs ∧ u' = .frz od (.dK kvs)) ∨ (u = .frz od (.dK kvs) ∧ u' = .dK kvs)
section
variable {K : PySem.W.Frag} {F H : Hp} {d : Addr} {u u' : HO}
theorem Swp.other (w : Swp u u') {G : Hp} (hF : G d = some u) {a : Addr} {o : HO} (h : G a = some o) (n : ∀ kvs, o ≠ .dK kvs ∧ ∀ od, o ≠ .frz od (.dK kvs)) : upd G d u' a = some o := by
  have : a ≠ d := fun z => by
    subst z
    rw [hF] at h
    cases h
    obtain ⟨od, kvs, ⟨e, _⟩ | ⟨e, _⟩⟩ := w
    · exact (n kvs).1 e
    · exact (n kvs).2 od e
  rw [upd_ne this]
  exact h
theorem Swp.rd (w : Swp u u') (hF : F d = some u) {a : Addr} {kvs : List (Key × V)} (h : Rd F a (.dK kvs)) : Rd (upd F d u') a (.dK kvs) := by
  by_cases q : a = d
  · subst q
    obtain ⟨od, kvs', ⟨e, e'⟩ | ⟨e, e'⟩⟩ := w
    · subst e e'
      rcases h with h | ⟨o, h⟩
      · rw [hF] at h; cases h; exact .inr ⟨od, upd_same⟩
      · rw [hF] at h; cases h
    · subst e e'
      rcases h with h | ⟨o, h⟩
      · rw [hF] at h; cases h
      · rw [hF] at h; cases h; exact .inl upd_same
  · rcases h with h | ⟨o, h⟩
    · exact .inl (by rw [upd_ne q]; exact h)
    · exact .inr ⟨o, by rw [upd_ne q]; exact h⟩
mutual
theorem Rp.swp (w : Swp u u') (hF : F d = some u) : ∀ {v : V} {x : T}, Rp K F v x → Rp K (upd F d u') v x
  | _, _, .non => .non
  | _, _, .bl b => .bl b
  | _, _, .int i => .int i
  | _, _, .str x => .str x
  | _, _, .lst h a => .lst (w.other hF h (fun _ => ⟨nofun, fun _ => nofun⟩)) (RpA.swp w hF a)
  | _, _, .tup h a => .tup (w.other hF h (fun _ => ⟨nofun, fun _ => nofun⟩)) (RpA.swp w hF a)
  | _, _, .frl h a => .frl (by
      rcases h with (h | ⟨o, h⟩) | h
      · exact .inl (.inl (w.other hF h (fun _ => ⟨nofun, fun _ => nofun⟩)))
      · exact .inl (.inr ⟨o, w.other hF h (fun _ => ⟨nofun, fun _ => nofun⟩)⟩)
      · exact .inr h) (RpA.swp w hF a)
  | _, _, .dic h a => .dic (w.rd hF h) (RpK.swp w hF a)
  | _, _, .dit h a => .dit (w.other hF h (fun _ => ⟨nofun, fun _ => nofun⟩)) (RpT.swp w hF a)
theorem RpA.swp (w : Swp u u') (hF : F d = some u) : ∀ {v : List V} {x : List T}, RpA K F v x → RpA K (upd F d u') v x
  | _, _, .nil => .nil
  | _, _, .cons a b => .cons (Rp.swp w hF a) (RpA.swp w hF b)
theorem RpK.swp (w : Swp u u') (hF : F d = some u) : ∀ {v : List (Key × V)} {x : List (T × T)}, RpK K F v x → RpK K (upd F d u') v x
  | _, _, .nil => .nil
  | _, _, .cons a b => .cons (Rp.swp w hF a) (RpK.swp w hF b)
theorem RpT.swp (w : Swp u u') (hF : F d = some u) : ∀ {v : List (List Key × V)} {x : List (T × T)}, RpT K F v x → RpT K (upd F d u') v x
  | _, _, .nil => .nil
  | _, _, .cons a b => .cons (Rp.swp w hF a) (RpT.swp w hF b)
end
theorem Own.swp (w : Swp u u') (hF : F d = some u) {p : Addr} (hp : F p = none) : ∀ {x : T}, Own K F H p x → Own K (upd F d u') (upd H d u') p x := by
  have ne : p ≠ d := fun z => by rw [z, hF] at hp; cases hp
  intro x h
  cases x with
  | lst ds => obtain ⟨vs, a, b⟩ := h; exact ⟨vs, by rw [upd_ne ne]; exact a, b.swp w hF⟩
  | dic ds => obtain ⟨vs, a, b⟩ := h; exact ⟨vs, by rw [upd_ne ne]; exact a, b.swp w hF⟩
  | dit ds => obtain ⟨vs, a, b⟩ := h; exact ⟨vs, by rw [upd_ne ne]; exact a, b.swp w hF⟩
  | _ => exact h.elim
theorem upd_none {G : Hp} {p : Addr} (hF : G d = some u) (hp : G p = none) : upd G d u' p = none := by
  have ne : p ≠ d := fun z => by rw [z, hF] at hp; cases hp
  rw [upd_ne ne]
  exact hp
theorem upd_none2 {G : Hp} {p : Addr} (hp : upd G d u' p = none) : G p = none := by
  by_cases q : p = d
  · subst q; rw [upd_same] at hp; cases hp
  · rw [upd_ne q] at hp; exact hp
theorem Ok.swp {τ : Sls} {σ : L2.St} (k : Ok K F τ σ H) (w : Swp u u') (hF : F d = some u) : Ok K (upd F d u') τ σ (upd H d u') := by
  refine ⟨fun b o e => ?_, k.len, fun i s x h1 h2 => ?_, k.ne⟩
  · by_cases q : b = d
    · subst q; rw [upd_same] at e ⊢; exact e
    · rw [upd_ne q] at e ⊢; exact k.sub b o e
  · have q := k.sl i s x h1 h2
    cases s with
    | no => trivial
    | fr t =>
      obtain ⟨v, e, r⟩ := q
      exact ⟨v, e, r.swp w hF⟩
    | ow t =>
      obtain ⟨p, e, a, b⟩ := q
      exact ⟨p, e, upd_none hF a, b.swp w hF a⟩
    | ln t =>
      obtain ⟨p, e, a, b⟩ := q
      exact ⟨p, e, upd_none hF a, b.swp w hF a⟩
theorem Stp.lock {τ τ' : Sls} {σ σ' : L2.St} {H' F' : Hp} (s : Stp τ σ (upd H d u') (upd F d u') τ' σ' H' F') (hF : F d = some u) (hH : H d = some u) : Stp τ σ H F τ' σ' (upd H' d u) (upd F' d u) := by
  refine ⟨fun b o h n => ?_, fun b o h => ?_, fun b o h => ?_, fun b o h => ?_, fun p h => (s.rt p h).imp id upd_none2, s.ln⟩
  · by_cases q : b = d
    · subst q; rw [hH] at h; cases h; exact upd_same
    · rw [upd_ne q]; exact s.keep b o (by rw [upd_ne q]; exact h) n
  · by_cases q : b = d
    · subst q; exact ⟨u, upd_same⟩
    · rw [upd_ne q]; exact s.dom b o (by rw [upd_ne q]; exact h)
  · by_cases q : b = d
    · subst q; rw [hF] at h; cases h; exact upd_same
    · rw [upd_ne q]; exact s.fr b o (by rw [upd_ne q]; exact h)
  · by_cases q : b = d
    · subst q; rw [upd_same] at h; cases h; exact .inl hF
    · rw [upd_ne q] at h
      rcases s.new b o h with e | e | e
      · rw [upd_ne q] at e; exact .inl e
      · rw [upd_ne q] at e; exact .inr (.inl e)
      · exact .inr (.inr e)
theorem ROk.lock {τ τ' : Sls} {σ σ' : L2.St} {H' F' : Hp} {v : V} {r : R} (h : ROk K F' H' τ' σ' τ σ (upd H d u') v r) (w : Swp u' u) (hF' : F' d = some u') : ROk K (upd F' d u) (upd H' d u) τ' σ' τ σ H v r := by
  rcases h with ⟨e, q⟩ | ⟨e, p, q1, q2, q3, q4, q5⟩
  · exact .inl ⟨e, q.swp w hF'⟩
  · exact .inr ⟨e, p, q1, upd_none hF' q2, q3, q4.imp upd_none2 id, q5.swp w hF' q2⟩
end
theorem vrd_ok {K : PySem.W.Frag} {F H : Hp} {τ τ' : Sls} {σ : L2.St} {j : Nat} {x : T} (e : vrd j τ = some (x, τ')) (k : Ok K F τ σ H) : ∃ v F', σ[j]? = some (some v) ∧ Ok K F' τ' σ H ∧ Stp τ σ H F τ' σ H F' ∧ Rp K F' v x ∧ τ'[j]? = some (.fr x) := by
  unfold vrd at e
  split at e
  · rename_i d h
    cases e
    have hl : j < σ.length := by rw [← k.len]; exact (List.getElem?_eq_some_iff.mp h).1
    have hx : σ[j]? = some σ[j] := List.getElem?_eq_getElem hl
    obtain ⟨v, e, r⟩ := k.sl j _ _ h hx
    rw [e] at hx
    exact ⟨v, F, hx, k, .refl, r, h⟩
  · rename_i d h
    cases e
    obtain ⟨p, F', h1, h2, h3, h4⟩ := k.freeze h
    exact ⟨_, F', h1, h2, h3, h4, List.getElem?_set_self (List.getElem?_eq_some_iff.mp h).1⟩
  · cases e

/-! ### the keys of a dict under lock -/
def keyI (j : Nat) : M (List T) := fun τ => match τ[j]? with
  | some (.fr (.dic ds)) => some (ds.map (·.1), τ)
  | _ => none
def wiF (K : PySem.W.Frag) (it : M (List T)) : TI := fun σ H R => ∃ τ τ' ds F, it τ = some (ds, τ') ∧ Ok K F τ σ H ∧ ∀ J H' F', Ok K F' τ' σ H' → Stp τ σ H F τ' σ H' F' → Yld K J F' ds → R J H'
theorem s_wiF {K : PySem.W.Frag} {it : M (List T)} : SI K (wiF K it) it := fun τ τ' ds σ H F R e k c => ⟨τ, τ', ds, F, e, k, c⟩
theorem RpK.key {K : PySem.W.Frag} {F : Hp} : ∀ {kvs : List (Key × V)} {ds : List (T × T)} {i : Nat} {k : Key} {v : V} {x : T}, RpK K F kvs ds → kvs[i]? = some (k, v) → (ds.map (·.1))[i]? = some x → x = keyT k
  | _, _, i, _, _, _, .nil, h, _ => by simp at h
  | _, _, 0, k, v, x, .cons _ _, h, h2 => by
    simp at h h2
    rw [← h2, h.1]
  | _, _, i + 1, k, v, x, .cons _ b, h, h2 => RpK.key (i := i) b (by simpa using h) (by simpa using h2)
theorem keysAt {K : PySem.W.Frag} {j : Nat} {σ : L2.St} {H : Hp} {R : It → Hp → Prop} {d : Addr} {od : Obj} {kvs : List (Key × V)} (hH : H d = some (.frz od (.dK kvs))) (hσ : σ[j]? = some (some (.ref d))) (h : wiF K (keyI j) σ H R) : iKeys (tVar j) σ H R := by
  obtain ⟨τ, τ', ds, F, e, k, c⟩ := h
  unfold keyI at e
  split at e
  · rename_i es hj
    cases e
    obtain ⟨v, e, r⟩ := k.sl j _ _ hj hσ
    cases e
    cases r with
    | dic hd ra =>
      rename_i kvs'
      have hF : F d = some (.frz od (.dK kvs)) ∧ kvs' = kvs := by
        rcases hd with hd | ⟨o, hd⟩
        · have := k.sub _ _ hd
          rw [hH] at this
          cases this
        · have := k.sub _ _ hd
          rw [hH] at this
          cases this
          exact ⟨hd, rfl⟩
      obtain ⟨hF, rfl⟩ := hF
      refine ⟨.ref d, hσ, d, od, rfl, .inl ⟨kvs', hH, c (Itk d od kvs') H F k .refl ⟨fun H2 s2 => ⟨s2 _ _ hF, by rw [List.length_map, ra.length]; exact Nat.le_refl _⟩, fun i x H2 F2 hi s2 s3 => ⟨⟨s3 _ _ (s2 _ _ hF), ?_⟩, fun y H3 hy => ?_⟩⟩⟩⟩
      · have := (List.getElem?_eq_some_iff.mp hi).1
        rw [List.length_map] at this
        rw [ra.length]
        exact this
      · obtain ⟨rfl, kk, v, h1, h2⟩ := hy
        have := ra.key h1 hi
        subst this h2
        refine ⟨F2, .refl s3, ?_⟩
        cases kk with
        | inl n => exact .int _
        | inr n => exact .str _
  · cases e
def lockS (j : Nat) (f : Sls → Option Out) : Sls → Option Out := fun τ => (vrd j τ).bind fun p => match p.1 with
  | .dic _ => f p.2
  | _ => none
def lockE (j : Nat) (f : M R) : M R := fun τ => (vrd j τ).bind fun p => match p.1 with
  | .dic _ => f p.2
  | _ => none
def tOrLock (t : TS) : TS := fun D σ H => t D σ H ∨ tLock t D σ H
def tOrLockE (t : TE) : TE := fun σ H Q => t σ H Q ∨ tLockE t σ H Q
theorem ps_orLock {X : Cx} {st : Stmt} {t : TS} (h : PS X st t) : PS X st (tOrLock t) := ⟨fun pins s σ H D I hw => hw.elim (h.run pins s σ H D I) ((ps_lock h).run pins s σ H D I)⟩
theorem pe_orLock {X : Cx} {e : Expr} {t : TE} (h : PE X e t) : PE X e (tOrLockE t) := ⟨fun pins s σ H Q I hw => hw.elim (h.run pins s σ H Q I) ((pe_lock h).run pins s σ H Q I)⟩
theorem s_lockS {K : PySem.W.Frag} {j : Nat} {t tF : TS} {f : Sls → Option Out} (hs : SS K tF f) (mono : ∀ D σ H d od kvs, H d = some (.frz od (.dK kvs)) → σ[j]? = some (some (.ref d)) → tF D σ H → t D σ H) : SS K (tOrLock t) (lockS j f) := by
  intro τ out σ H F D e k c
  unfold lockS at e
  obtain ⟨p, h1, e⟩ := Option.bind_eq_some_iff.mp e
  obtain ⟨x, τ1⟩ := p
  obtain ⟨v, F0, hσ, k0, s0, r0, hj⟩ := vrd_ok h1 k
  dsimp only at e
  split at e
  · cases r0 with
    | dic hd ra =>
      rename_i a kvs
      rcases hd with hd | ⟨o, hd⟩
      · have hH := k0.sub _ _ hd
        refine .inr ⟨a, .dK kvs, hH, trivial, fun od => ?_⟩
        have w : Swp (.dK kvs) (.frz od (.dK kvs)) := ⟨od, kvs, .inl ⟨rfl, rfl⟩⟩
        have w' : Swp (.frz od (.dK kvs)) (.dK kvs) := ⟨od, kvs, .inr ⟨rfl, rfl⟩⟩
        refine mono _ σ _ a od kvs upd_same hσ (hs τ1 out σ _ _ _ e (k0.swp w hd) ?_)
        cases out with
        | nx τ2 =>
          intro σ' H' F' k' s'
          have hF' := s'.fr _ _ upd_same
          exact ⟨k'.sub _ _ hF', c σ' _ _ (k'.swp w' hF') (s0.trans (s'.lock hd hH))⟩
        | bk τ2 =>
          intro σ' H' F' k' s'
          have hF' := s'.fr _ _ upd_same
          exact ⟨k'.sub _ _ hF', c σ' _ _ (k'.swp w' hF') (s0.trans (s'.lock hd hH))⟩
        | ct τ2 =>
          intro σ' H' F' k' s'
          have hF' := s'.fr _ _ upd_same
          exact ⟨k'.sub _ _ hF', c σ' _ _ (k'.swp w' hF') (s0.trans (s'.lock hd hH))⟩
        | rt r τ2 =>
          intro v σ' H' F' k' s' q
          have hF' := s'.fr _ _ upd_same
          exact ⟨k'.sub _ _ hF', c v σ' _ _ (k'.swp w' hF') (s0.trans (s'.lock hd hH)) ((q.lock w' hF').back s0)⟩
      · refine .inl (mono _ σ _ a o kvs (k0.sub _ _ hd) hσ (hs τ1 out σ _ _ _ e k0 ?_))
        cases out with
        | nx τ2 => exact fun σ' H' F' k' s' => c σ' _ _ k' (s0.trans s')
        | bk τ2 => exact fun σ' H' F' k' s' => c σ' _ _ k' (s0.trans s')
        | ct τ2 => exact fun σ' H' F' k' s' => c σ' _ _ k' (s0.trans s')
        | rt r τ2 => exact fun v σ' H' F' k' s' q => c v σ' _ _ k' (s0.trans s') (q.back s0)
  · cases e
theorem s_lockE {K : PySem.W.Frag} {j : Nat} {t tF : TE} {f : M R} (hs : SE K tF f) (mono : ∀ Q σ H d od kvs, H d = some (.frz od (.dK kvs)) → σ[j]? = some (some (.ref d)) → tF σ H Q → t σ H Q) : SE K (tOrLockE t) (lockE j f) := by
  intro τ τ' res σ H F Q e k c
  unfold lockE at e
  obtain ⟨p, h1, e⟩ := Option.bind_eq_some_iff.mp e
  obtain ⟨x, τ1⟩ := p
  obtain ⟨v, F0, hσ, k0, s0, r0, hj⟩ := vrd_ok h1 k
  dsimp only at e
  split at e
  · cases r0 with
    | dic hd ra =>
      rename_i a kvs
      rcases hd with hd | ⟨o, hd⟩
      · have hH := k0.sub _ _ hd
        refine .inr ⟨a, .dK kvs, hH, trivial, fun od => ?_⟩
        have w : Swp (.dK kvs) (.frz od (.dK kvs)) := ⟨od, kvs, .inl ⟨rfl, rfl⟩⟩
        have w' : Swp (.frz od (.dK kvs)) (.dK kvs) := ⟨od, kvs, .inr ⟨rfl, rfl⟩⟩
        refine mono _ σ _ a od kvs upd_same hσ (hs τ1 τ' res σ _ _ _ e (k0.swp w hd) fun v H' F' k' s' q => ?_)
        have hF' := s'.fr _ _ upd_same
        exact ⟨k'.sub _ _ hF', c v _ _ (k'.swp w' hF') (s0.trans (s'.lock hd hH)) ((q.lock w' hF').back s0)⟩
      · exact .inl (mono _ σ _ a o kvs (k0.sub _ _ hd) hσ (hs τ1 τ' res σ _ _ _ e k0 fun v H' F' k' s' q => c v _ _ k' (s0.trans s') (q.back s0)))
  · cases e
def forD (j : Nat) (g : T → Sls → Option Sls) (body : Sls → Option Out) : Sls → Option Out := lockS j (forS (keyI j) g body)
def lcD (j : Nat) (g : T → Sls → Option Sls) (cnd : M Bool) (elt : M T) (own : List Nat) : M R := lockE j (lcE (keyI j) g cnd elt own)
section
variable {X : Cx} {pos : Pos} {elt tg : Expr} {ifs : List Expr} {scope : Scope} {own : List (Str × Nat)} {gt : TG} {tt : TT} {L : List Nat} {gg : T → Sls → Option Sls} {cnd : M Bool} {fe : M T} {te : TE} {x : Str} {px : Pos}
theorem st_forD {body : List Stmt} {t : TS} {f : Sls → Option Out} (j : Nat) (hp : PassesOwn (model X.prog X.w) X.A X.env X.xe) (hc : X.calm = true) (hg : EG X tg gt L gg) (hb : EL X body t f) (hN : X.N[j]? = some x := by rfl) (hv : Vis X.env.scope x := by first | exact Or.inl rfl | exact Or.inr (Or.inl rfl) | exact Or.inr (Or.inr rfl))
    (hd : (x == ("__debug__" : Str)) = false := by decide) (hcd : (x == ("__classdict__" : Str)) = false := by decide) (hs : ∀ y, foldedSetIterable (.Name x px) X.env y = pure y := by intro _; rfl) :
    ES X (.For tg (.Name x px) body [] pos) (tOrLock (tFor (iKeys (tVar j)) gt t)) (forD j gg f) :=
  ⟨ps_orLock (ps_for hp hc (pi_keys (pe_var hN hv hd hcd)) hg.pe hb.pe hs), s_lockS (s_for s_wiF hg.s hb.s) fun D σ H d od kvs h1 h2 h => keysAt h1 h2 h⟩
theorem e_lcD (j : Nat) (hc : X.calm = true) (hN : X.N.Nodup) (ok : BlkOk X.N X.env.scope scope own)
    (hg : ∀ (s : Shared) (H : Hp) (C : Addr) (cl : List (Str × Addr)) (fp : List Addr), EG (X.blk s H scope (compEnvC scope cl C X.env) fp) tg gt L gg) (ht : ∀ (s : Shared) (H : Hp) (C : Addr) (cl : List (Str × Addr)) (fp : List Addr), ET (X.blk s H scope (compEnvC scope cl C X.env) fp) ifs tt cnd)
    (he : ∀ (s : Shared) (H : Hp) (C : Addr) (cl : List (Str × Addr)) (fp : List Addr), EV (X.blk s H scope (compEnvC scope cl C X.env) fp) elt te fe) (hL : ∀ j ∈ L, j ∈ own.map (·.2)) (hj : X.N[j]? = some x := by rfl) (hv : Vis X.env.scope x := by first | exact Or.inl rfl | exact Or.inr (Or.inl rfl) | exact Or.inr (Or.inr rfl))
    (hd : (x == ("__debug__" : Str)) = false := by decide) (hcd : (x == ("__classdict__" : Str)) = false := by decide) (hs : ∀ y, foldedSetIterable (.Name x px) X.env y = pure y := by intro _; rfl) :
    EE X (.ListComp elt [⟨tg, .Name x px, ifs, 0⟩] scope pos) (tOrLockE (tLc (iKeys (tVar j)) gt tt te (own.map (·.2)))) (lcD j gg cnd fe (own.map (·.2))) :=
  ⟨pe_orLock (pe_lc hc hN (pi_keys (pe_var hj hv hd hcd)) ok (fun s H C cl fp => (hg s H C cl fp).pe) (fun s H C cl fp => (ht s H C cl fp).pe) (fun s H C cl fp => (he s H C cl fp).pe) hs),
    s_lockE (lcL_run s_wiF (hg X.s_0 X.H_0 0 [] []).s (ht X.s_0 X.H_0 0 [] []).s (he X.s_0 X.H_0 0 [] []).s hL) fun Q σ H d od kvs h1 h2 h => keysAt h1 h2 h⟩
theorem st_lcD {i : Nat} {y : Str} {py spos : Pos} (j : Nat) (hc : X.calm = true) (hN : X.N.Nodup) (hy : X.N[i]? = some y) (hyl : X.env.scope.names.lookup y = some .local)
    (hsw : swapsWith (.ListComp elt [⟨tg, .Name x px, ifs, 0⟩] scope pos) (some (.Name y py)) spos.line X.env = pure true) (ok : BlkOk X.N X.env.scope scope own)
    (hg : ∀ (s : Shared) (H : Hp) (C : Addr) (cl : List (Str × Addr)) (fp : List Addr), EG (X.blk s H scope (compEnvC scope cl C X.env) fp) tg gt L gg) (ht : ∀ (s : Shared) (H : Hp) (C : Addr) (cl : List (Str × Addr)) (fp : List Addr), ET (X.blk s H scope (compEnvC scope cl C X.env) fp) ifs tt cnd)
    (he : ∀ (s : Shared) (H : Hp) (C : Addr) (cl : List (Str × Addr)) (fp : List Addr), EV (X.blk s H scope (compEnvC scope cl C X.env) fp) elt te fe) (hL : ∀ j ∈ L, j ∈ own.map (·.2)) (hj : X.N[j]? = some x := by rfl) (hv : Vis X.env.scope x := by first | exact Or.inl rfl | exact Or.inr (Or.inl rfl) | exact Or.inr (Or.inr rfl))
    (hd : (x == ("__debug__" : Str)) = false := by decide) (hcd : (x == ("__classdict__" : Str)) = false := by decide) (hs : ∀ y, foldedSetIterable (.Name x px) X.env y = pure y := by intro _; rfl) :
    ES X (.Assign [.Name y py] (.ListComp elt [⟨tg, .Name x px, ifs, 0⟩] scope pos) spos) (tOrLock (tAsg (tLc (iKeys (tVar j)) gt tt te (own.map (·.2))) (gName i))) (lockS j (asgS i (lcE (keyI j) gg cnd fe (own.map (·.2))))) :=
  ⟨ps_orLock (ps_setLc hc hN hy hyl hsw (pi_keys (pe_var hj hv hd hcd)) ok (fun s H C cl fp => (hg s H C cl fp).pe) (fun s H C cl fp => (ht s H C cl fp).pe) (fun s H C cl fp => (he s H C cl fp).pe) hs),
    s_lockS (s_asg (lcL_run s_wiF (hg X.s_0 X.H_0 0 [] []).s (ht X.s_0 X.H_0 0 [] []).s (he X.s_0 X.H_0 0 [] []).s hL)) fun D σ H d od kvs h1 h2 h => keysAt h1 h2 h⟩
end
/-- a def of which nothing is known -/
theorem fd_none {P : Program} {w : World} {K : PySem.W.Frag} {mg : Str → Option Value} {base : Heap} {x qual : Str} {params : Arguments} {body : List Stmt} {scope : Scope} {f : Addr} {fd : FuncData} {N ps : List Str} {k n : Nat}
    (F : FunD K x qual params body scope [] [] f fd) (S : FnScope N ps scope) (hm : mg x = some (.ref f)) (hbd : Binds K fd ps []) (hn : ps.length = n) :
    Fd P w K mg base (k + 1) x n (fun _ => none) := by
  refine ⟨f, fd, ps, ?_, hm, F.kp, hbd⟩
  refine F.ok S (fun vs H Q E h => by rw [hn]; exact h.1) fun cdv A outer s H vs Q E hr h => ?_
  obtain ⟨_, _, _, _, _, _, _, e, _⟩ := h
  cases e
end TR

namespace TR
open PySem L2

/-! ### blocks: each part by what it computes -/
def tvF (K : PySem.W.Frag) (f : M T) : TE := fun σ H Q => ∃ τ τ' d F, f τ = some (d, τ') ∧ Ok K F τ σ H ∧ ∀ v H' F', Ok K F' τ' σ H' → Stp τ σ H F τ' σ H' F' → Rp K F' v d → Q v H'
def tbF (K : PySem.W.Frag) (f : M Bool) : TT := fun σ H Q => ∃ τ τ' b F, f τ = some (b, τ') ∧ Ok K F τ σ H ∧ ∀ H' F', Ok K F' τ' σ H' → Stp τ σ H F τ' σ H' F' → Q b H'
def tgF (K : PySem.W.Frag) (L : List Nat) (g : T → Sls → Option Sls) : TG := fun v σ H Q => ∃ d τ τ' F, g d τ = some τ' ∧ Ok K F τ σ H ∧ Rp K F v d ∧ ∀ σ', Ok K F τ' σ' H → Stp τ σ H F τ' σ' H F → σ'.length = σ.length → (∀ j, j ∉ L → σ'[j]? = σ[j]?) → Q σ' H
theorem s_tvF {K : PySem.W.Frag} {f : M T} : SV K (tvF K f) f := fun τ τ' d σ H F Q e k c => ⟨τ, τ', d, F, e, k, c⟩
theorem s_tbF {K : PySem.W.Frag} {f : M Bool} : SB K (tbF K f) f := fun τ τ' d σ H F Q e k c => ⟨τ, τ', d, F, e, k, c⟩
theorem s_tgF {K : PySem.W.Frag} {L : List Nat} {g : T → Sls → Option Sls} : SG K L (tgF K L g) g := fun d v τ τ' σ H F Q e k r c => ⟨d, τ, τ', F, e, k, r, c⟩
section
variable {Y : Cx} {e tg : Expr} {ifs : List Expr}
def XV (Y : Cx) (e : Expr) (f : M T) : Prop := ∃ te, EV Y e te f
def XT (Y : Cx) (ifs : List Expr) (f : M Bool) : Prop := ∃ te, ET Y ifs te f
def XG (Y : Cx) (tg : Expr) (L : List Nat) (g : T → Sls → Option Sls) : Prop := ∃ te, EG Y tg te L g
def XI (Y : Cx) (tg e : Expr) (f : M (List T)) : Prop := ∃ te, EI Y tg e te f
theorem can_v {f : M T} (h : XV Y e f) : PE Y e (tvF Y.K f) := by
  obtain ⟨te, h⟩ := h
  exact ⟨fun pins s σ H Q I ⟨τ, τ', d, F, e, k, c⟩ => h.pe.run pins s σ H Q I (h.s τ τ' d σ H F Q e k c)⟩
theorem can_t {f : M Bool} (h : XT Y ifs f) : PTs Y ifs (tbF Y.K f) := by
  obtain ⟨te, h⟩ := h
  exact ⟨fun pins s σ H Q I ⟨τ, τ', d, F, e, k, c⟩ => h.pe.run pins s σ H Q I (h.s τ τ' d σ H F Q e k c)⟩
theorem can_g {L : List Nat} {g : T → Sls → Option Sls} (h : XG Y tg L g) : PG Y tg (tgF Y.K L g) := by
  obtain ⟨te, h⟩ := h
  exact ⟨fun pins s σ H x v Q I r ⟨d, τ, τ', F, e, k, r', c⟩ => h.pe.run pins s σ H x v Q I r (h.s d x τ τ' σ H F Q e k r' c)⟩
theorem can_i {f : M (List T)} (h : XI Y tg e f) : PI Y tg e (wiF Y.K f) := by
  obtain ⟨te, h⟩ := h
  exact ⟨fun pins s σ H Q I ⟨τ, τ', d, F, e, k, c⟩ => h.pe.run pins s σ H Q I (h.s τ τ' d σ H F Q e k c)⟩
end
section
variable {X : Cx} {pos : Pos} {elt tg iter tg1 iter1 kx vx : Expr} {ifs ifs1 : List Expr} {scope : Scope} {own : List (Str × Nat)} {wi : TI} {L L1 vs1 : List Nat} {it it1 : M (List T)} {gg gg1 : T → Sls → Option Sls} {cnd cnd1 : M Bool} {fe fk fv : M T} {x : Str} {px : Pos}
theorem x_lc (L : List Nat) (hc : X.calm = true) (hN : X.N.Nodup) (hi : EI X tg iter wi it) (ok : BlkOk X.N X.env.scope scope own)
    (hg : ∀ (s : Shared) (H : Hp) (C : Addr) (cl : List (Str × Addr)) (fp : List Addr), XG (X.blk s H scope (compEnvC scope cl C X.env) fp) tg L gg) (ht : ∀ (s : Shared) (H : Hp) (C : Addr) (cl : List (Str × Addr)) (fp : List Addr), XT (X.blk s H scope (compEnvC scope cl C X.env) fp) ifs cnd)
    (he : ∀ (s : Shared) (H : Hp) (C : Addr) (cl : List (Str × Addr)) (fp : List Addr), XV (X.blk s H scope (compEnvC scope cl C X.env) fp) elt fe) (hL : ∀ j ∈ L, j ∈ own.map (·.2)) (hs : ∀ x, foldedSetIterable iter X.env x = pure x := by intro _; rfl) :
    EE X (.ListComp elt [⟨tg, iter, ifs, 0⟩] scope pos) (tLc wi (tgF X.K L gg) (tbF X.K cnd) (tvF X.K fe) (own.map (·.2))) (lcE it gg cnd fe (own.map (·.2))) :=
  ⟨pe_lc hc hN hi.pe ok (fun s H C cl fp => can_g (hg s H C cl fp)) (fun s H C cl fp => can_t (ht s H C cl fp)) (fun s H C cl fp => can_v (he s H C cl fp)) hs, lcL_run hi.s s_tgF s_tbF s_tvF hL⟩
theorem sx_lc (L : List Nat) {i : Nat} {y : Str} {py spos : Pos} (hc : X.calm = true) (hN : X.N.Nodup) (hy : X.N[i]? = some y) (hyl : X.env.scope.names.lookup y = some .local)
    (hsw : swapsWith (.ListComp elt [⟨tg, iter, ifs, 0⟩] scope pos) (some (.Name y py)) spos.line X.env = pure true) (hi : EI X tg iter wi it) (ok : BlkOk X.N X.env.scope scope own)
    (hg : ∀ (s : Shared) (H : Hp) (C : Addr) (cl : List (Str × Addr)) (fp : List Addr), XG (X.blk s H scope (compEnvC scope cl C X.env) fp) tg L gg) (ht : ∀ (s : Shared) (H : Hp) (C : Addr) (cl : List (Str × Addr)) (fp : List Addr), XT (X.blk s H scope (compEnvC scope cl C X.env) fp) ifs cnd)
    (he : ∀ (s : Shared) (H : Hp) (C : Addr) (cl : List (Str × Addr)) (fp : List Addr), XV (X.blk s H scope (compEnvC scope cl C X.env) fp) elt fe) (hL : ∀ j ∈ L, j ∈ own.map (·.2)) (hs : ∀ x, foldedSetIterable iter X.env x = pure x := by intro _; rfl) :
    ES X (.Assign [.Name y py] (.ListComp elt [⟨tg, iter, ifs, 0⟩] scope pos) spos) (tAsg (tLc wi (tgF X.K L gg) (tbF X.K cnd) (tvF X.K fe) (own.map (·.2))) (gName i)) (asgS i (lcE it gg cnd fe (own.map (·.2)))) :=
  ⟨ps_setLc hc hN hy hyl hsw hi.pe ok (fun s H C cl fp => can_g (hg s H C cl fp)) (fun s H C cl fp => can_t (ht s H C cl fp)) (fun s H C cl fp => can_v (he s H C cl fp)) hs, s_asg (lcL_run hi.s s_tgF s_tbF s_tvF hL)⟩
theorem x_dc (L : List Nat) (hc : X.calm = true) (hN : X.N.Nodup) (hi : EI X tg iter wi it) (ok : BlkOk X.N X.env.scope scope own)
    (hg : ∀ (s : Shared) (H : Hp) (C : Addr) (cl : List (Str × Addr)) (fp : List Addr), XG (X.blk s H scope (compEnvC scope cl C X.env) fp) tg L gg) (ht : ∀ (s : Shared) (H : Hp) (C : Addr) (cl : List (Str × Addr)) (fp : List Addr), XT (X.blk s H scope (compEnvC scope cl C X.env) fp) ifs cnd)
    (hk : ∀ (s : Shared) (H : Hp) (C : Addr) (cl : List (Str × Addr)) (fp : List Addr), XV (X.blk s H scope (compEnvC scope cl C X.env) fp) kx fk)
    (he : ∀ (s : Shared) (H : Hp) (C : Addr) (cl : List (Str × Addr)) (fp : List Addr), XV (X.blk s H scope (compEnvC scope cl C X.env) fp) vx fv) (hL : ∀ j ∈ L, j ∈ own.map (·.2)) (hs : ∀ x, foldedSetIterable iter X.env x = pure x := by intro _; rfl) :
    EE X (.DictComp kx vx [⟨tg, iter, ifs, 0⟩] scope pos) (tDc wi (tgF X.K L gg) (tbF X.K cnd) (tvF X.K fk) (tvF X.K fv) (own.map (·.2))) (dcE it gg cnd fk fv (own.map (·.2))) :=
  ⟨pe_dc hc hN hi.pe ok (fun s H C cl fp => can_g (hg s H C cl fp)) (fun s H C cl fp => can_t (ht s H C cl fp)) (fun s H C cl fp => can_v (hk s H C cl fp)) (fun s H C cl fp => can_v (he s H C cl fp)) hs, dcL_run hi.s s_tgF s_tbF s_tvF s_tvF hL⟩
theorem x_lc2 (L L1 : List Nat) (hc : X.calm = true) (hN : X.N.Nodup) (hi : EI X tg iter wi it) (ok : BlkOk X.N X.env.scope scope own) (hv : ∀ i ∈ vs1, i ∈ own.map (·.2))
    (hg : ∀ (s : Shared) (H : Hp) (C : Addr) (cl : List (Str × Addr)) (fp : List Addr), XG (X.blk s H scope (compEnvC scope cl C X.env) fp) tg L gg) (ht : ∀ (s : Shared) (H : Hp) (C : Addr) (cl : List (Str × Addr)) (fp : List Addr), XT (X.blk s H scope (compEnvC scope cl C X.env) fp) ifs cnd)
    (hi1 : ∀ (s : Shared) (H : Hp) (C : Addr) (cl : List (Str × Addr)) (fp : List Addr), XI (X.blk s H scope (compEnvC scope cl C X.env) fp) tg1 iter1 it1)
    (hg1 : ∀ (s : Shared) (H : Hp) (C : Addr) (cl : List (Str × Addr)) (fp : List Addr), XG (X.blk s H scope (compEnvC scope cl C X.env) fp) tg1 L1 gg1) (ht1 : ∀ (s : Shared) (H : Hp) (C : Addr) (cl : List (Str × Addr)) (fp : List Addr), XT (X.blk s H scope (compEnvC scope cl C X.env) fp) ifs1 cnd1)
    (he : ∀ (s : Shared) (H : Hp) (C : Addr) (cl : List (Str × Addr)) (fp : List Addr), XV (X.blk s H scope (compEnvC scope cl C X.env) fp) elt fe) (hL : ∀ j ∈ L, j ∈ own.map (·.2)) (hL1 : ∀ j ∈ L1, j ∈ vs1)
    (hs : ∀ x, foldedSetIterable iter X.env x = pure x := by intro _; rfl) (hs1 : ∀ env x, foldedSetIterable iter1 env x = pure x := by intro _ _; rfl) :
    EE X (.ListComp elt [⟨tg, iter, ifs, 0⟩, ⟨tg1, iter1, ifs1, 0⟩] scope pos) (tLc2 wi (tgF X.K L gg) (tbF X.K cnd) (wiF X.K it1) (tgF X.K L1 gg1) (tbF X.K cnd1) (tvF X.K fe) (own.map (·.2)) vs1) (lc2E it gg cnd it1 gg1 cnd1 fe (own.map (·.2)) vs1) :=
  ⟨pe_lc2 hc hN hi.pe ok hv (fun s H C cl fp => can_g (hg s H C cl fp)) (fun s H C cl fp => can_t (ht s H C cl fp)) (fun s H C cl fp => can_i (hi1 s H C cl fp)) (fun s H C cl fp => can_g (hg1 s H C cl fp)) (fun s H C cl fp => can_t (ht1 s H C cl fp)) (fun s H C cl fp => can_v (he s H C cl fp)) hs hs1,
    lc2_run hi.s s_tgF s_tbF s_wiF s_tgF s_tbF s_tvF hL hL1 hv⟩
theorem sx_lc2 (L L1 : List Nat) {i : Nat} {y : Str} {py spos : Pos} (hc : X.calm = true) (hN : X.N.Nodup) (hy : X.N[i]? = some y) (hyl : X.env.scope.names.lookup y = some .local)
    (hsw : swapsWith (.ListComp elt [⟨tg, iter, ifs, 0⟩, ⟨tg1, iter1, ifs1, 0⟩] scope pos) (some (.Name y py)) spos.line X.env = pure true) (hi : EI X tg iter wi it) (ok : BlkOk X.N X.env.scope scope own) (hv : ∀ i ∈ vs1, i ∈ own.map (·.2))
    (hg : ∀ (s : Shared) (H : Hp) (C : Addr) (cl : List (Str × Addr)) (fp : List Addr), XG (X.blk s H scope (compEnvC scope cl C X.env) fp) tg L gg) (ht : ∀ (s : Shared) (H : Hp) (C : Addr) (cl : List (Str × Addr)) (fp : List Addr), XT (X.blk s H scope (compEnvC scope cl C X.env) fp) ifs cnd)
    (hi1 : ∀ (s : Shared) (H : Hp) (C : Addr) (cl : List (Str × Addr)) (fp : List Addr), XI (X.blk s H scope (compEnvC scope cl C X.env) fp) tg1 iter1 it1)
    (hg1 : ∀ (s : Shared) (H : Hp) (C : Addr) (cl : List (Str × Addr)) (fp : List Addr), XG (X.blk s H scope (compEnvC scope cl C X.env) fp) tg1 L1 gg1) (ht1 : ∀ (s : Shared) (H : Hp) (C : Addr) (cl : List (Str × Addr)) (fp : List Addr), XT (X.blk s H scope (compEnvC scope cl C X.env) fp) ifs1 cnd1)
    (he : ∀ (s : Shared) (H : Hp) (C : Addr) (cl : List (Str × Addr)) (fp : List Addr), XV (X.blk s H scope (compEnvC scope cl C X.env) fp) elt fe) (hL : ∀ j ∈ L, j ∈ own.map (·.2)) (hL1 : ∀ j ∈ L1, j ∈ vs1)
    (hs : ∀ x, foldedSetIterable iter X.env x = pure x := by intro _; rfl) (hs1 : ∀ env x, foldedSetIterable iter1 env x = pure x := by intro _ _; rfl) :
    ES X (.Assign [.Name y py] (.ListComp elt [⟨tg, iter, ifs, 0⟩, ⟨tg1, iter1, ifs1, 0⟩] scope pos) spos) (tAsg (tLc2 wi (tgF X.K L gg) (tbF X.K cnd) (wiF X.K it1) (tgF X.K L1 gg1) (tbF X.K cnd1) (tvF X.K fe) (own.map (·.2)) vs1) (gName i)) (asgS i (lc2E it gg cnd it1 gg1 cnd1 fe (own.map (·.2)) vs1)) :=
  ⟨ps_setLc2 hc hN hy hyl hsw hi.pe ok hv (fun s H C cl fp => can_g (hg s H C cl fp)) (fun s H C cl fp => can_t (ht s H C cl fp)) (fun s H C cl fp => can_i (hi1 s H C cl fp)) (fun s H C cl fp => can_g (hg1 s H C cl fp)) (fun s H C cl fp => can_t (ht1 s H C cl fp)) (fun s H C cl fp => can_v (he s H C cl fp)) hs hs1,
    s_asg (lc2_run hi.s s_tgF s_tbF s_wiF s_tgF s_tbF s_tvF hL hL1 hv)⟩
theorem x_lcD (L : List Nat) (j : Nat) (hc : X.calm = true) (hN : X.N.Nodup) (ok : BlkOk X.N X.env.scope scope own)
    (hg : ∀ (s : Shared) (H : Hp) (C : Addr) (cl : List (Str × Addr)) (fp : List Addr), XG (X.blk s H scope (compEnvC scope cl C X.env) fp) tg L gg) (ht : ∀ (s : Shared) (H : Hp) (C : Addr) (cl : List (Str × Addr)) (fp : List Addr), XT (X.blk s H scope (compEnvC scope cl C X.env) fp) ifs cnd)
    (he : ∀ (s : Shared) (H : Hp) (C : Addr) (cl : List (Str × Addr)) (fp : List Addr), XV (X.blk s H scope (compEnvC scope cl C X.env) fp) elt fe) (hL : ∀ j ∈ L, j ∈ own.map (·.2)) (hj : X.N[j]? = some x := by rfl) (hv : Vis X.env.scope x := by first | exact Or.inl rfl | exact Or.inr (Or.inl rfl) | exact Or.inr (Or.inr rfl))
    (hd : (x == ("__debug__" : Str)) = false := by decide) (hcd : (x == ("__classdict__" : Str)) = false := by decide) (hs : ∀ y, foldedSetIterable (.Name x px) X.env y = pure y := by intro _; rfl) :
    EE X (.ListComp elt [⟨tg, .Name x px, ifs, 0⟩] scope pos) (tOrLockE (tLc (iKeys (tVar j)) (tgF X.K L gg) (tbF X.K cnd) (tvF X.K fe) (own.map (·.2)))) (lcD j gg cnd fe (own.map (·.2))) :=
  ⟨pe_orLock (pe_lc hc hN (pi_keys (pe_var hj hv hd hcd)) ok (fun s H C cl fp => can_g (hg s H C cl fp)) (fun s H C cl fp => can_t (ht s H C cl fp)) (fun s H C cl fp => can_v (he s H C cl fp)) hs),
    s_lockE (lcL_run s_wiF s_tgF s_tbF s_tvF hL) fun Q σ H d od kvs h1 h2 h => keysAt h1 h2 h⟩
theorem sx_lcD (L : List Nat) {i : Nat} {y : Str} {py spos : Pos} (j : Nat) (hc : X.calm = true) (hN : X.N.Nodup) (hy : X.N[i]? = some y) (hyl : X.env.scope.names.lookup y = some .local)
    (hsw : swapsWith (.ListComp elt [⟨tg, .Name x px, ifs, 0⟩] scope pos) (some (.Name y py)) spos.line X.env = pure true) (ok : BlkOk X.N X.env.scope scope own)
    (hg : ∀ (s : Shared) (H : Hp) (C : Addr) (cl : List (Str × Addr)) (fp : List Addr), XG (X.blk s H scope (compEnvC scope cl C X.env) fp) tg L gg) (ht : ∀ (s : Shared) (H : Hp) (C : Addr) (cl : List (Str × Addr)) (fp : List Addr), XT (X.blk s H scope (compEnvC scope cl C X.env) fp) ifs cnd)
    (he : ∀ (s : Shared) (H : Hp) (C : Addr) (cl : List (Str × Addr)) (fp : List Addr), XV (X.blk s H scope (compEnvC scope cl C X.env) fp) elt fe) (hL : ∀ j ∈ L, j ∈ own.map (·.2)) (hj : X.N[j]? = some x := by rfl) (hv : Vis X.env.scope x := by first | exact Or.inl rfl | exact Or.inr (Or.inl rfl) | exact Or.inr (Or.inr rfl))
    (hd : (x == ("__debug__" : Str)) = false := by decide) (hcd : (x == ("__classdict__" : Str)) = false := by decide) (hs : ∀ y, foldedSetIterable (.Name x px) X.env y = pure y := by intro _; rfl) :
    ES X (.Assign [.Name y py] (.ListComp elt [⟨tg, .Name x px, ifs, 0⟩] scope pos) spos) (tOrLock (tAsg (tLc (iKeys (tVar j)) (tgF X.K L gg) (tbF X.K cnd) (tvF X.K fe) (own.map (·.2))) (gName i))) (lockS j (asgS i (lcE (keyI j) gg cnd fe (own.map (·.2))))) :=
  ⟨ps_orLock (ps_setLc hc hN hy hyl hsw (pi_keys (pe_var hj hv hd hcd)) ok (fun s H C cl fp => can_g (hg s H C cl fp)) (fun s H C cl fp => can_t (ht s H C cl fp)) (fun s H C cl fp => can_v (he s H C cl fp)) hs),
    s_lockS (s_asg (lcL_run s_wiF s_tgF s_tbF s_tvF hL)) fun D σ H d od kvs h1 h2 h => keysAt h1 h2 h⟩
end
end TR

namespace TR
open PySem L2
/-- a def, as its promise -/
theorem ok_of {P : Program} {w : World} {K : PySem.W.Frag} {mg : Str → Option Value} {base : Heap} {x qual : Str} {params : Arguments} {body : List Stmt} {scope : Scope} {f : Addr} {fd : FuncData} {N ps : List Str} {k n m : Nat} {g : Sls → Option Out}
    (F : FunD K x qual params body scope [] [] f fd) (S : FnScope N ps scope) (hn : ps.length = n) (hN : N.length = n + m)
    (hb : ∀ (cdv : Value) (A : Around) (outer : List PySem.Env) (s : Shared) (H : Hp) (E : XK), Room k (A.deeper (PyProof.Rows.envOfC qual scope s.heap.objs.size f cdv)) → ∃ ts, EL (cxOf CX0 P w K mg base N qual scope f cdv A outer s H E).nox body ts g) :
    FnOk P w K mg base CX0 (k + 1) f fd ps (spT K n (fnS m g)) := by
  refine F.ok S (fun vs H Q E h => by rw [hn]; exact h.1) fun cdv A outer s H vs Q E hr h => ?_
  obtain ⟨ts, el⟩ := hb cdv A outer s H E hr
  exact ⟨ts, el.pe.nox, fn_run hN el.s h⟩
theorem fd_mk {P : Program} {w : World} {K : PySem.W.Frag} {mg : Str → Option Value} {base : Heap} {x : Str} {k n : Nat} {fs : FnS} {f : Addr} {fd : FuncData} {ps : List Str} (h : FnOk P w K mg base CX0 k f fd ps (spT K n fs)) (hm : mg x = some (.ref f)) (hk : PySem.W.keepIn K (.ref f) = true) (hb : Binds K fd ps []) : Fd P w K mg base k x n fs := ⟨f, fd, ps, h, hm, hk, hb⟩
/-- the script's slot, the answer -/
theorem law_spec {K : PySem.W.Frag} {fs : FnS} {H : Hp} {a : Addr} {ns : List Int} {τ' : Sls} (hS : SqL K H a (ns.map V.int)) (e : fs [.fr (.frl (ns.map .int))] = some (⟨.bl true, false⟩, τ')) : spT K 1 fs [.ref a] H (fun v _ => v = .bl true) fun _ _ _ => False := by
  refine ⟨rfl, fun b => if b = a then H a else none, [.fr (.frl (ns.map .int))], _, _, ⟨fun b o h => ?_, rfl, fun i s x h1 h2 => ?_, fun i j p r => ?_⟩, ?_, e, fun v H' F' k s q => ?_⟩
  · split at h
    · rename_i z; rw [z]; exact h
    · cases h
  · cases i with
    | zero =>
      simp only [List.getElem?_cons_zero, Option.some.injEq] at h1
      simp only [List.map_cons, List.map_nil, List.getElem?_cons_zero, Option.some.injEq] at h2
      subst h1 h2
      refine ⟨_, rfl, .frl (xs := ns.map V.int) ?_ (RpA.of_map_int ns)⟩
      rcases hS with (h | ⟨o, h⟩) | h
      · exact .inl (.inl (by show (if a = a then H a else none) = _; rw [if_pos rfl]; exact h))
      · exact .inl (.inr ⟨o, by show (if a = a then H a else none) = _; rw [if_pos rfl]; exact h⟩)
      · exact .inr h
    | succ i => simp at h1
  · obtain ⟨s, h1, h2, _⟩ := r
    cases i with
    | zero => simp only [List.getElem?_cons_zero, Option.some.injEq] at h1; subst h1; cases h2
    | succ i => simp at h1
  · intro s hs
    rw [List.mem_singleton.mp hs]
    rfl
  · rcases q with ⟨_, q⟩ | ⟨h, _⟩
    · cases q; rfl
    · cases h

/-! ### the head's look, with what the import brings -/
def gcO (K : PySem.W.Frag) : Bool := He.eqO (PySem.W.nsIn K mainGlobals "gcd") (some (some (.builtin "math.gcd")))
def obG (n : Nat) (fa : List He.Fa) (fn : List He.DefD) (g : Addr → Option Obj) : He.AlD × Bool := (He.obsDG n fa fn g, gcO (He.frG g (He.asD g n)))
def hookG (n : Nat) (fa : List He.Fa) (fn : List He.DefD) : PySem.W.Hook where
  α := He.AlD × Bool
  obs := fun s => obG n fa fn s.heap.get?
  val := fun _ => (He.valD fn, true)
  says := fun _ h => ∃ K : PySem.W.Frag, K.In h ∧ He.SaysD fa fn K ∧ gcO K = true
  of := fun _ _ e => ⟨_, He.frG_in, congrArg Prod.fst e, congrArg Prod.snd e⟩
  keeps := fun _ _ _ ⟨K, hK, c⟩ k => ⟨K, PySem.W.Frag.In.keeps hK k, c⟩
theorem obG_eq {n : Nat} {fa : List He.Fa} {fn : List He.DefD} {g : Addr → Option Obj} {s : Shared} (h : ∀ a, g a = s.heap.get? a) : obG n fa fn g = (hookG n fa fn).obs s := by
  have e : g = s.heap.get? := funext h
  rw [e] <;> rfl
theorem gc_ok {K : PySem.W.Frag} {h : Heap} {mg : Str → Option Value} (X : K.In h) (G : h.Ns mainGlobals mg) (c : gcO K = true) : GcdOk mg := ⟨PySem.W.mg_of X G (He.eqO_ok c)⟩
end TR

namespace TR
open PySem L2

/-! ### evaluation, by simp -/
def Sl.isLn : Sl → Bool
  | .ln _ => true
  | _ => false
def valS : Sl → Option T
  | .fr d => some d
  | .ow d => some d
  | _ => none
section
variable {f g : Sls → Option Out} {τ : Sls} {c : M Bool}
@[simp] theorem ev_sq : sqS f g τ = (f τ).bind fun o => match o with
  | .nx τ1 => g τ1
  | o => some o := id rfl
@[simp] theorem ev_sk : skS τ = some (.nx τ) := id rfl
@[simp] theorem ev_bk : bkS τ = some (.bk τ) := id rfl
@[simp] theorem ev_ct : ctS τ = some (.ct τ) := id rfl
@[simp] theorem ev_if : ifS c f g τ = (c τ).bind fun p => if p.1 = true then f p.2 else g p.2 := id rfl
@[simp] theorem ev_ex {h : M R} : exS h τ = (h τ).map fun p => .nx p.2 := id rfl
@[simp] theorem ev_rt {h : M R} : rtS h τ = (h τ).map fun p => .rt p.1 p.2 := id rfl
@[simp] theorem ev_rtN : rtN τ = some (.rt ⟨.non, false⟩ τ) := id rfl
@[simp] theorem ev_mv {i : Nat} : mvS i τ = match τ[i]? with
  | some (.fr d) => some (.rt ⟨d, false⟩ τ)
  | some (.ow d) => some (.rt ⟨d, true⟩ (τ.set i .no))
  | _ => none := id rfl
@[simp] theorem ev_asg {i : Nat} {h : M R} : asgS i h τ = (h τ).bind fun p => (bnd p.2 i p.1).map .nx := id rfl
@[simp] theorem ev_isLn1 : Sl.isLn .no = false := id rfl
@[simp] theorem ev_isLn2 {d : T} : Sl.isLn (.fr d) = false := id rfl
@[simp] theorem ev_isLn3 {d : T} : Sl.isLn (.ow d) = false := id rfl
@[simp] theorem ev_isLn4 {d : T} : Sl.isLn (.ln d) = true := id rfl
@[simp] theorem ev_valS1 : valS .no = none := id rfl
@[simp] theorem ev_valS2 {d : T} : valS (.fr d) = some d := id rfl
@[simp] theorem ev_valS3 {d : T} : valS (.ow d) = some d := id rfl
@[simp] theorem ev_valS4 {d : T} : valS (.ln d) = none := id rfl
@[simp] theorem ev_bnd {i : Nat} {r : R} : bnd τ i r = (τ[i]?).bind fun s => if s.isLn = true then none else some (τ.set i (if r.o = true then .ow r.d else .fr r.d)) := by
  unfold bnd
  cases τ[i]? with
  | none => rfl
  | some s => cases s <;> rfl
@[simp] theorem ev_ix {j : Nat} {fe fi : M T} : ixS j fe fi τ = (fe τ).bind fun p => (slT p.2[j]?).bind fun _ => (fi p.2).bind fun q => (slT q.2[j]?).bind fun d => (stG d q.1 p.1).bind fun d' => (setR q.2 j d').map .nx := id rfl
@[simp] theorem ev_setR {j : Nat} {d : T} : setR τ j d = match τ[j]? with
  | some (.ow _) => some (τ.set j (.ow d))
  | some (.ln _) => some (τ.set j (.ln d))
  | _ => none := id rfl
@[simp] theorem ev_slT1 {d : T} : slT (some (.fr d)) = some d := id rfl
@[simp] theorem ev_slT2 {d : T} : slT (some (.ow d)) = some d := id rfl
@[simp] theorem ev_slT3 {d : T} : slT (some (.ln d)) = some d := id rfl
@[simp] theorem ev_slT4 : slT (some .no) = none := id rfl
@[simp] theorem ev_vrd {i : Nat} : vrd i τ = (τ[i]?).bind fun s => (valS s).map fun d => (d, τ.set i (.fr d)) := by
  unfold vrd
  cases h : τ[i]? with
  | none => rfl
  | some s =>
    cases s with
    | fr d =>
      have hl := (List.getElem?_eq_some_iff.mp h)
      obtain ⟨hl1, hl2⟩ := hl
      have : τ.set i (.fr d) = τ := by
        rw [← hl2]
        exact List.set_getElem_self hl1
      show some (d, τ) = some (d, τ.set i (.fr d))
      rw [this]
    | no => rfl
    | ow d => rfl
    | ln d => rfl
@[simp] theorem ev_prd {i : Nat} : prdOk i τ = match slT τ[i]? with
  | some _ => some (fun τ2 => slT τ2[i]?, τ)
  | none => none := id rfl
@[simp] theorem ev_cst {d : T} : cst d τ = some (d, τ) := id rfl
@[simp] theorem ev_fz {h : M R} : fz h τ = (h τ).map fun p => (p.1.d, p.2) := by
  unfold fz
  cases h τ <;> rfl
@[simp] theorem ev_rv {h : M T} : rv h τ = (h τ).map fun p => (⟨p.1, false⟩, p.2) := by
  unfold rv
  cases h τ <;> rfl
@[simp] theorem ev_ov {h : M T} : ov h τ = (h τ).map fun p => (fun _ => some p.1, p.2) := by
  unfold ov
  cases h τ <;> rfl
@[simp] theorem ev_op {k : T → T → Option R} {fa fb : M (Sls → Option T)} : opE k fa fb τ = (fa τ).bind fun p => (fb p.2).bind fun q => (p.1 q.2).bind fun x => (q.1 q.2).bind fun y => (k x y).map fun r => (r, q.2) := id rfl
@[simp] theorem ev_bT {h : M R} : bT h τ = (h τ).bind fun p => match p.1.d with
  | .bl b => some (b, p.2)
  | _ => none := id rfl
@[simp] theorem ev_trB {fa : M (Sls → Option T)} : trB fa τ = (fa τ).bind fun p => (p.1 p.2).bind fun x => (truT x).map fun b => (b, p.2) := id rfl
@[simp] theorem ev_andB {f g : M Bool} : andB f g τ = (f τ).bind fun p => if p.1 = true then g p.2 else some (false, p.2) := id rfl
@[simp] theorem ev_orB {f g : M Bool} : orB f g τ = (f τ).bind fun p => if p.1 = true then some (true, p.2) else g p.2 := id rfl
@[simp] theorem ev_notB {f : M Bool} : notB f τ = (f τ).map fun p => (!p.1, p.2) := id rfl
@[simp] theorem ev_yesB : yesB τ = some (true, τ) := id rfl
@[simp] theorem ev_andE {fa : M T} {fb : M R} : andE fa fb τ = (fa τ).bind fun p => (truT p.1).bind fun z => if z = true then fb p.2 else some (⟨p.1, false⟩, p.2) := id rfl
@[simp] theorem ev_orE {fa : M T} {fb : M R} : orE fa fb τ = (fa τ).bind fun p => (truT p.1).bind fun z => if z = true then some (⟨p.1, false⟩, p.2) else fb p.2 := id rfl
@[simp] theorem ev_notE {fa : M (Sls → Option T)} : notE fa τ = (fa τ).bind fun p => (p.1 p.2).bind fun x => (truT x).map fun b => (rb (!b), p.2) := id rfl
@[simp] theorem ev_ifE {t : M Bool} {f g : M R} : ifE t f g τ = (t τ).bind fun p => if p.1 = true then f p.2 else g p.2 := id rfl
@[simp] theorem ev_unE {k : T → Option R} {fa : M (Sls → Option T)} : unE k fa τ = (fa τ).bind fun p => (p.1 p.2).bind fun x => (k x).map fun r => (r, p.2) := id rfl
@[simp] theorem ev_chE {k k' : T → T → Option R} {fa fb fc : M (Sls → Option T)} : chE k k' fa fb fc τ = (fa τ).bind fun p => (fb p.2).bind fun q => (p.1 q.2).bind fun x => (q.1 q.2).bind fun y => (k x y).bind fun r => match r.d with
    | .bl true => (fc q.2).bind fun w => (q.1 w.2).bind fun y' => (w.1 w.2).bind fun z => (k' y' z).map fun r => (r, w.2)
    | .bl false => some (rb false, q.2)
    | _ => none := id rfl
@[simp] theorem ev_nilV : nilV τ = some ([], τ) := id rfl
@[simp] theorem ev_consV {f : M T} {g : M (List T)} : consV f g τ = (f τ).bind fun p => (g p.2).map fun q => (p.1 :: q.1, q.2) := id rfl
@[simp] theorem ev_nilO : nilO τ = some ([], τ) := id rfl
@[simp] theorem ev_consO {f : M (Sls → Option T)} {g : M (List (Sls → Option T))} : consO f g τ = (f τ).bind fun p => (g p.2).map fun q => (p.1 :: q.1, q.2) := id rfl
@[simp] theorem ev_nilC : nilC τ = some ([], τ) := id rfl
@[simp] theorem ev_consC {f : M T} {g : M (List Ag)} : consC f g τ = (f τ).bind fun p => (g p.2).map fun q => (.val p.1 :: q.1, q.2) := id rfl
@[simp] theorem ev_plcC {i : Nat} {g : M (List Ag)} : plcC i g τ = (slT τ[i]?).bind fun _ => (g τ).map fun q => (.plc i :: q.1, q.2) := id rfl
@[simp] theorem ev_allRd0 : allRd [] τ = some [] := id rfl
@[simp] theorem ev_allRd1 {r rs} : allRd (r :: rs) τ = (r τ).bind fun d => (allRd rs τ).map fun ds => d :: ds := id rfl
@[simp] theorem ev_tupE {f : M (List T)} : tupE f τ = (f τ).bind fun p => if p.1.length ≤ sizeLine then some (⟨.tup p.1, false⟩, p.2) else none := id rfl
@[simp] theorem ev_lstE {f : M (List T)} : lstE f τ = (f τ).bind fun p => if p.1.length ≤ sizeLine then some (⟨.lst p.1, true⟩, p.2) else none := id rfl
@[simp] theorem ev_dicE : dicE τ = some (⟨.dic [], true⟩, τ) := id rfl
@[simp] theorem ev_ditE : ditE τ = some (⟨.dit [], true⟩, τ) := id rfl
@[simp] theorem ev_calE {k : List T → Option R} {f : M (List (Sls → Option T))} : calE k f τ = (f τ).bind fun p => (allRd p.1 p.2).bind fun ds => (k ds).map fun r => (r, p.2) := id rfl
@[simp] theorem ev_isiE {n : String} {f : M (Sls → Option T)} : isiE n f τ = (f τ).bind fun p => (p.1 p.2).map fun d => (rb (isiB n d), p.2) := id rfl
@[simp] theorem ev_callE {f : FnS} {fa : M (List Ag)} : callE f fa τ = (fa τ).bind fun p => if nodupN (plcs p.1) = true then (parm p.2 p.1).bind fun τc => (f τc).map fun q => (q.1, unparm p.2 p.1 q.2) else none := id rfl
@[simp] theorem ev_metE {j : Nat} {k : List T → List T → Option (T × List T)} {fa : M (List T)} : metE j k fa τ = (lstOf (slT τ[j]?)).bind fun _ => (fa τ).bind fun p => (lstOf (slT p.2[j]?)).bind fun ds => (k ds p.1).bind fun q => (setR p.2 j (.lst q.2)).map fun τ' => (⟨q.1, false⟩, τ') := id rfl
@[simp] theorem ev_lstOf {ds : List T} : lstOf (some (.lst ds)) = some ds := id rfl
@[simp] theorem ev_lstI {f : M T} : lstI f τ = (f τ).bind fun p => (p.1.seqL).map fun ds => (ds, p.2) := id rfl
@[simp] theorem ev_tupI {f : M T} : tupI f τ = (f τ).bind fun p => match p.1 with
  | .tup ds => some (ds, p.2)
  | _ => none := id rfl
@[simp] theorem ev_enuI {fa : M (List T)} : enuI fa τ = (fa τ).bind fun p => match p.1 with
  | [d] => (d.seqL).map fun ds => (enuT 0 ds, p.2)
  | _ => none := id rfl
@[simp] theorem ev_rng1 {f : M (List (Sls → Option T))} : rng1 f τ = (f τ).bind fun p => (allRd p.1 p.2).bind fun ds => match ds with
  | [.int j] => if rgOk j then some (rngT 0 j.toNat, p.2) else none
  | _ => none := id rfl
@[simp] theorem ev_rng2 {f : M (List (Sls → Option T))} : rng2 f τ = (f τ).bind fun p => (allRd p.1 p.2).bind fun ds => match ds with
  | [.int i, .int j] => if rgOk i && rgOk j then some (rngT i (j - i).toNat, p.2) else none
  | _ => none := id rfl
@[simp] theorem ev_for {it : M (List T)} {k : T → Sls → Option Sls} {b : Sls → Option Out} : forS it k b τ = (it τ).bind fun p => loopS k b p.1 p.2 := id rfl
@[simp] theorem ev_gN {i : Nat} {d : T} : gN i d τ = bnd τ i ⟨d, false⟩ := id rfl
@[simp] theorem ev_gT {k : List T → Sls → Option Sls} {ds : List T} : gT k (.tup ds) τ = k ds τ := id rfl
@[simp] theorem ev_gs0 : gsNil [] τ = some τ := id rfl
@[simp] theorem ev_gs1 {f : T → Sls → Option Sls} {k : List T → Sls → Option Sls} {d : T} {r : List T} : gsCons f k (d :: r) τ = (f d τ).bind fun τ1 => k r τ1 := id rfl
@[simp] theorem ev_lcE {it : M (List T)} {k : T → Sls → Option Sls} {cnd : M Bool} {elt : M T} {own : List Nat} : lcE it k cnd elt own τ =
  (it τ).bind fun p => (lcL k cnd elt own p.1 (wipeT own p.2)).bind fun q => if q.1.length ≤ sizeLine then some (⟨.lst q.1, true⟩, restT own p.2 q.2) else none := id rfl
@[simp] theorem ev_lc2E {it : M (List T)} {k : T → Sls → Option Sls} {cnd : M Bool} {it1 : M (List T)} {g1 : T → Sls → Option Sls} {cnd1 : M Bool} {elt : M T} {own vs1 : List Nat} : lc2E it k cnd it1 g1 cnd1 elt own vs1 τ =
  (it τ).bind fun p => (lc2L k cnd it1 g1 cnd1 elt own vs1 p.1 (wipeT own p.2)).bind fun q => if q.1.length ≤ sizeLine then some (⟨.lst q.1, true⟩, restT own p.2 q.2) else none := id rfl
@[simp] theorem ev_noP : noP τ = some (none, τ) := id rfl
@[simp] theorem ev_soP {f : M T} : soP f τ = (f τ).bind fun p => match p.1 with
  | .int i => some (some i, p.2)
  | _ => none := id rfl
@[simp] theorem ev_slE {fa : M (Sls → Option T)} {fl fh : M (Option Int)} : slE fa fl fh τ = (fa τ).bind fun p => (fl p.2).bind fun l => (fh l.2).bind fun h => (p.1 h.2).bind fun d => (slG d l.1 h.1).map fun r => (r, h.2) := id rfl
@[simp] theorem ev_get2 {j : Nat} {fa fb : M T} : get2E j fa fb τ = (slT τ[j]?).bind fun d => if d.isD = true then (fa τ).bind fun p => (fb p.2).bind fun q => (slT q.2[j]?).bind fun c => (askT c p.1).map fun o => (⟨o.getD q.1, false⟩, q.2) else none := id rfl
@[simp] theorem ev_tuS {fe : M T} {k : T → Sls → Option Sls} : tuS fe k τ = (fe τ).bind fun p => (k p.1 p.2).map .nx := id rfl
@[simp] theorem ev_parS {i j : Nat} {fa : M (List T)} : parS i j fa τ = (fa τ).bind fun p => match p.1 with
  | [a, b] => (bnd p.2 i ⟨a, false⟩).bind fun τ1 => (bnd τ1 j ⟨b, false⟩).map .nx
  | _ => none := id rfl
@[simp] theorem ev_fn {m : Nat} : fnS m f τ = (f (τ ++ List.replicate m .no)).bind fun o => match o with
  | .rt r τ1 => some (r, back τ τ1)
  | .nx τ1 => some (⟨.non, false⟩, back τ τ1)
  | _ => none := id rfl
@[simp] theorem ev_back0 {σ : Sls} : back [] σ = [] := by cases σ <;> rfl
@[simp] theorem ev_back1 {d s : _} {r r1 : Sls} : back (.ln d :: r) (s :: r1) = s :: back r r1 := id rfl
@[simp] theorem ev_back2 {d s : _} {r r1 : Sls} : back (.fr d :: r) (s :: r1) = .fr d :: back r r1 := id rfl
@[simp] theorem ev_parm0 : parm τ [] = some [] := id rfl
@[simp] theorem ev_parm1 {a : Ag} {as : List Ag} : parm τ (a :: as) = (agS τ a).bind fun s => (parm τ as).map fun r => s :: r := id rfl
@[simp] theorem ev_ag1 {d : T} : agS τ (.val d) = some (.fr d) := id rfl
@[simp] theorem ev_ag2 {i : Nat} : agS τ (.plc i) = match τ[i]? with
    | some (.fr d) => some (.fr d)
    | some (.ow d) => some (.ln d)
    | some (.ln d) => some (.ln d)
    | _ => none := id rfl
@[simp] theorem ev_plcs0 : plcs [] = [] := id rfl
@[simp] theorem ev_plcs1 {i : Nat} {r : List Ag} : plcs (.plc i :: r) = i :: plcs r := id rfl
@[simp] theorem ev_plcs2 {d : T} {r : List Ag} : plcs (.val d :: r) = plcs r := id rfl
@[simp] theorem ev_nodup0 : nodupN [] = true := id rfl
@[simp] theorem ev_nodup1 {i : Nat} {r : List Nat} : nodupN (i :: r) = (!r.contains i && nodupN r) := id rfl
@[simp] theorem ev_mapI0 {k : Nat → Sl → Sl} {n : Nat} : mapI k n [] = [] := id rfl
@[simp] theorem ev_mapI1 {k : Nat → Sl → Sl} {n : Nat} {s : Sl} : mapI k n (s :: τ) = k n s :: mapI k (n + 1) τ := id rfl
@[simp] theorem ev_unparm {as : List Ag} {ss : Sls} : unparm τ as ss = mapI (unS as ss) 0 τ := id rfl
@[simp] theorem ev_unS1 {as : List Ag} {ss : Sls} {j : Nat} {d : T} : unS as ss j (.fr d) = .fr d := by unfold unS; cases findP j as ss <;> rfl
@[simp] theorem ev_unS2 {as : List Ag} {ss : Sls} {j : Nat} : unS as ss j .no = .no := by unfold unS; cases findP j as ss <;> rfl
@[simp] theorem ev_unS3 {as : List Ag} {ss : Sls} {j : Nat} {d : T} : unS as ss j (.ow d) = .ow ((findP j as ss).getD d) := by unfold unS; cases findP j as ss <;> rfl
@[simp] theorem ev_unS4 {as : List Ag} {ss : Sls} {j : Nat} {d : T} : unS as ss j (.ln d) = .ln ((findP j as ss).getD d) := by unfold unS; cases findP j as ss <;> rfl
@[simp] theorem ev_fp0 {j : Nat} {ss : Sls} : findP j [] ss = none := by cases ss <;> rfl
@[simp] theorem ev_fp1 {j i : Nat} {as : List Ag} {d : T} {ss : Sls} : findP j (.plc i :: as) (.ln d :: ss) = if i = j then some d else findP j as ss := id rfl
@[simp] theorem ev_fp2 {j i : Nat} {as : List Ag} {d : T} {ss : Sls} : findP j (.plc i :: as) (.fr d :: ss) = findP j as ss := id rfl
@[simp] theorem ev_fp3 {j : Nat} {d : T} {as : List Ag} {s : Sl} {ss : Sls} : findP j (.val d :: as) (s :: ss) = findP j as ss := by cases s <;> rfl
@[simp] theorem ev_wipe0 {own : List Nat} : wipeT own τ = mapI (fun j s => if own.contains j = true then .no else s) 0 τ := id rfl
@[simp] theorem ev_rest0 {own : List Nat} {τ0 : Sls} : restT own τ0 τ = mapI (fun j s => if own.contains j = true then (τ0[j]?).getD .no else s) 0 τ := id rfl
end
section
variable {i j : Int} {ds es : List T}
@[simp] theorem ev_add : addG (.int i) (.int j) = some ⟨.int (i + j), false⟩ := id rfl
@[simp] theorem ev_cat : addG (.lst ds) (.lst es) = if ds.length + es.length ≤ sizeLine then some ⟨.lst (ds ++ es), true⟩ else none := id rfl
@[simp] theorem ev_sub : subG (.int i) (.int j) = some ⟨.int (i - j), false⟩ := id rfl
@[simp] theorem ev_mul : mulG (.int i) (.int j) = if mulOk i j then some ⟨.int (i * j), false⟩ else none := id rfl
@[simp] theorem ev_mod : modG (.int i) (.int j) = if j = 0 then none else some ⟨.int (i.fmod j), false⟩ := id rfl
@[simp] theorem ev_fdiv : fdivG (.int i) (.int j) = if fdivOk j then some ⟨.int (i.fdiv j), false⟩ else none := id rfl
@[simp] theorem ev_pow : powG (.int i) (.int j) = if powOk i j then some ⟨.int (i ^ j.toNat), false⟩ else none := id rfl
@[simp] theorem ev_shl : shlG (.int i) (.int j) = if powOk i j then some ⟨.int (i * 2 ^ j.toNat), false⟩ else none := id rfl
@[simp] theorem ev_and : andG (.int i) (.int j) = some ⟨.int (Builtin.bitAnd i j), false⟩ := id rfl
@[simp] theorem ev_lt : ltG (.int i) (.int j) = some ⟨.bl (decide (i < j)), false⟩ := id rfl
@[simp] theorem ev_le : leG (.int i) (.int j) = some ⟨.bl (decide (i ≤ j)), false⟩ := id rfl
@[simp] theorem ev_gt : gtG (.int i) (.int j) = some ⟨.bl (decide (j < i)), false⟩ := id rfl
@[simp] theorem ev_ge : geG (.int i) (.int j) = some ⟨.bl (decide (j ≤ i)), false⟩ := id rfl
@[simp] theorem ev_eqI : eqG (.int i) (.int j) = some ⟨.bl (decide (i = j)), false⟩ := by
  show some (rb (i == j)) = _
  by_cases h : i = j <;> simp [h]
@[simp] theorem ev_neI : neG (.int i) (.int j) = some ⟨.bl (!decide (i = j)), false⟩ := by
  show some (rb (!(i == j))) = _
  by_cases h : i = j <;> simp [h]
@[simp] theorem ev_neg : negG (.int i) = some ⟨.int (-i), false⟩ := id rfl
@[simp] theorem ev_lenL : lenG [.lst ds] = some ⟨.int ds.length, false⟩ := id rfl
@[simp] theorem ev_lenF : lenG [.frl ds] = some ⟨.int ds.length, false⟩ := id rfl
@[simp] theorem ev_lenT : lenG [.tup ds] = some ⟨.int ds.length, false⟩ := id rfl
@[simp] theorem ev_lenD {kvs : List (T × T)} : lenG [.dic kvs] = some ⟨.int kvs.length, false⟩ := id rfl
@[simp] theorem ev_int1 : intG [.int i] = some ⟨.int i, false⟩ := id rfl
@[simp] theorem ev_ixL : ixG (.lst ds) (.int i) = (atI ds i).map fun d => ⟨d, false⟩ := id rfl
@[simp] theorem ev_ixF : ixG (.frl ds) (.int i) = (atI ds i).map fun d => ⟨d, false⟩ := id rfl
@[simp] theorem ev_ixU : ixG (.tup ds) (.int i) = (atI ds i).map fun d => ⟨d, false⟩ := id rfl
@[simp] theorem ev_stL {v : T} : stG (.lst ds) (.int i) v = (ixN ds.length i).map fun j => .lst (ds.set j v) := id rfl
@[simp] theorem ev_trI : truT (.int i) = some (i != 0) := id rfl
@[simp] theorem ev_trB1 {b : Bool} : truT (.bl b) = some b := id rfl
@[simp] theorem ev_sqL : T.seqL (.lst ds) = some ds := id rfl
@[simp] theorem ev_sqF : T.seqL (.frl ds) = some ds := id rfl
@[simp] theorem ev_listL : listG [.lst ds] = some ⟨.lst ds, true⟩ := id rfl
@[simp] theorem ev_listF : listG [.frl ds] = some ⟨.lst ds, true⟩ := id rfl
@[simp] theorem ev_listT : listG [.tup ds] = some ⟨.lst ds, true⟩ := id rfl
@[simp] theorem ev_tupL : tupleG [.lst ds] = some ⟨.tup ds, false⟩ := id rfl
@[simp] theorem ev_tupF : tupleG [.frl ds] = some ⟨.tup ds, false⟩ := id rfl
@[simp] theorem ev_tupT : tupleG [.tup ds] = some ⟨.tup ds, false⟩ := id rfl
@[simp] theorem ev_app {d : T} (h : ds.length < sizeLine) : appG ds [d] = some (.non, ds ++ [d]) := by
  unfold appG
  simp only [if_pos h]
end
end TR

namespace TR
open PySem L2

/-! ### the pool of draws, alike in all the laws -/
def b_law_mixed : Sls → Option Out :=
  (sqS (asgS 2 (opE modG (ov (fz (calE intG (consO (ov (fz (opE addG (ov (fz (opE addG (ov (fz (opE mulG (prdOk 0) (ov (cst (.int 48271)))))) (ov (fz (opE mulG (prdOk 1) (ov (cst (.int 69621))))))))) (ov (cst (.int 11)))))) nilO)))) (ov (cst (.int 618970019642690137449562111)))))
    (sqS (asgS 3 (opE modG (ov (fz (calE intG (consO (ov (fz (opE addG (ov (fz (opE addG (ov (fz (opE mulG (prdOk 2) (prdOk 2)))) (ov (fz (opE mulG (ov (cst (.int 7))) (prdOk 2))))))) (prdOk 1)))) nilO)))) (ov (cst (.int 162259276829213363391578010288127)))))
    (sqS (asgS 4 (opE modG (ov (fz (calE intG (consO (ov (fz (opE addG (ov (fz (opE mulG (prdOk 3) (prdOk 3)))) (prdOk 2)))) nilO)))) (ov (cst (.int 618970019642690137449562111)))))
    (rtS (opE addG (ov (fz (opE mulG (prdOk 3) (ov (cst (.int 618970019642690137449562111)))))) (prdOk 4))))))
def f_law_mixed : FnS := fnS 3 b_law_mixed
def b_law_rest : Sls → Option Out :=
  (sqS (asgS 3 (rv (cst (.int 0))))
    (sqS (ifS (bT (opE gtG (ov (fz (calE lenG (consO (prdOk 0) nilO)))) (ov (cst (.int 0))))) (asgS 3 (calE intG (consO (ov (fz (opE ixG (prdOk 0) (ov (fz (opE modG (ov (fz (calE intG (consO (prdOk 1) nilO)))) (ov (fz (calE lenG (consO (prdOk 0) nilO)))))))))) nilO))) skS)
    (sqS (ifS (bT (opE ltG (prdOk 3) (ov (cst (.int 0))))) (asgS 3 (opE subG (ov (cst (.int 1))) (ov (fz (opE mulG (ov (cst (.int 2))) (prdOk 3)))))) skS)
    (sqS (ifS (andB (bT (opE eqG (prdOk 2) (ov (cst (.int 0))))) (andB (bT (opE ltG (prdOk 1) (ov (fz (calE lenG (consO (prdOk 0) nilO)))))) (bT (opE geG (prdOk 3) (ov (fz (opE powG (ov (cst (.int 10))) (ov (cst (.int 18)))))))))) (rtS (opE subG (prdOk 3) (ov (fz (opE powG (ov (cst (.int 10))) (ov (cst (.int 18)))))))) skS)
    (rtS (callE f_law_mixed (consC (fz (opE addG (prdOk 3) (ov (fz (opE mulG (prdOk 2) (ov (cst (.int 1000003)))))))) (consC (vrd 1) nilC))))))))
def f_law_rest : FnS := fnS 1 b_law_rest
def b_law_pool : Sls → Option Out :=
  (rtS (lstE (consV (vrd 0) (consV (cst (.int 0)) (consV (fz (callE f_law_rest (consC (vrd 0) (consC (cst (.int 0)) (consC (cst (.int 0)) nilC))))) (consV (cst (.int 0)) nilV))))))
def f_law_pool : FnS := fnS 0 b_law_pool
def b_law_draw : Sls → Option Out :=
  (sqS (ifS (bT (opE leG (ov (fz (opE ixG (prdOk 0) (ov (cst (.int 2)))))) (ov (cst (.int 1))))) (sqS (ixS 0 (fz (opE addG (ov (fz (opE ixG (prdOk 0) (ov (cst (.int 3)))))) (ov (cst (.int 1))))) (cst (.int 3)))
    (ixS 0 (fz (callE f_law_rest (consC (fz (opE ixG (prdOk 0) (ov (cst (.int 0))))) (consC (fz (opE ixG (prdOk 0) (ov (cst (.int 1))))) (consC (fz (opE ixG (prdOk 0) (ov (cst (.int 3))))) nilC))))) (cst (.int 2)))) skS)
    (sqS (asgS 2 (opE modG (ov (fz (calE intG (consO (ov (fz (opE ixG (prdOk 0) (ov (cst (.int 2)))))) nilO)))) (prdOk 1)))
    (sqS (ixS 0 (fz (opE fdivG (ov (fz (calE intG (consO (ov (fz (opE ixG (prdOk 0) (ov (cst (.int 2)))))) nilO)))) (prdOk 1))) (cst (.int 2)))
    (mvS 2))))
def f_law_draw : FnS := fnS 1 b_law_draw
theorem mulOk_big {a b : Int} (ha : a.natAbs < 2 ^ 200) (hb : b.natAbs < 2 ^ 200) : mulOk a b = true := by
  have e : (2 : Nat) ^ 200 ≤ 2 ^ 4096 := Nat.pow_le_pow_right (by decide) (by decide)
  unfold mulOk
  rw [decide_eq_true (Nat.lt_of_lt_of_le ha e), decide_eq_true (Nat.lt_of_lt_of_le hb e)]
  simp
theorem mod_small (a : Int) {b : Int} (h : 0 < b) (hb : b.natAbs < 2 ^ 200) : (a.fmod b).natAbs < 2 ^ 200 := by
  have h1 := Int.fmod_nonneg_of_pos a h
  have h2 := Int.fmod_lt_of_pos a h
  omega
theorem mixed_ok (n p : Int) : ∃ r : Int, f_law_mixed [.fr (.int n), .fr (.int p)] = some (⟨.int r, false⟩, [.fr (.int n), .fr (.int p)]) := by
  have h1 : ∀ a : Int, mulOk a 48271 = true := fun a => by simp [mulOk]
  have h2 : ∀ a : Int, mulOk a 69621 = true := fun a => by simp [mulOk]
  have h3 : ∀ a : Int, mulOk 7 a = true := fun a => by simp [mulOk]
  have h4 : ∀ a : Int, mulOk (a.fmod 618970019642690137449562111) (a.fmod 618970019642690137449562111) = true := fun a => mulOk_big (mod_small a (by decide) (by decide +kernel)) (mod_small a (by decide) (by decide +kernel))
  have h5 : ∀ a : Int, mulOk (a.fmod 162259276829213363391578010288127) (a.fmod 162259276829213363391578010288127) = true := fun a => mulOk_big (mod_small a (by decide) (by decide +kernel)) (mod_small a (by decide) (by decide +kernel))
  have h6 : ∀ a : Int, mulOk (a.fmod 162259276829213363391578010288127) 618970019642690137449562111 = true := fun a => mulOk_big (mod_small a (by decide) (by decide +kernel)) (by decide +kernel)
  unfold f_law_mixed b_law_mixed
  simp [h1, h2, h3, h4, h5, h6]
theorem atI_ok {α : Type} {xs : List α} {i : Int} (h0 : 0 ≤ i) (h1 : i < xs.length) : ∃ x, atI xs i = some x := by
  have h : i.toNat < xs.length := by omega
  refine ⟨xs[i.toNat], ?_⟩
  unfold atI ixN
  rw [if_pos h0, if_pos h1, Option.bind_some, List.getElem?_eq_getElem h]
theorem atI_map {α β : Type} (f : α → β) (xs : List α) (i : Int) : atI (xs.map f) i = (atI xs i).map f := by
  unfold atI
  rw [List.length_map]
  cases ixN xs.length i with
  | none => rfl
  | some j => simp
theorem rest_draw (ns : List Int) (p f : Int) : ∃ r : Int, f_law_rest [.fr (.frl (ns.map .int)), .fr (.int p), .fr (.int f)] = some (⟨.int r, false⟩, [.fr (.frl (ns.map .int)), .fr (.int p), .fr (.int f)]) := by
  have m1 : ∀ a : Int, mulOk 2 a = true := fun a => by simp [mulOk]
  have m2 : ∀ a : Int, mulOk a 1000003 = true := fun a => by simp [mulOk]
  have pw : powOk 10 18 = true := by decide +kernel
  have fin : ∀ m : Int, ∃ r : Int, ((sqS (ifS (bT (opE ltG (prdOk 3) (ov (cst (.int 0))))) (asgS 3 (opE subG (ov (cst (.int 1))) (ov (fz (opE mulG (ov (cst (.int 2))) (prdOk 3)))))) skS)
    (sqS (ifS (andB (bT (opE eqG (prdOk 2) (ov (cst (.int 0))))) (andB (bT (opE ltG (prdOk 1) (ov (fz (calE lenG (consO (prdOk 0) nilO)))))) (bT (opE geG (prdOk 3) (ov (fz (opE powG (ov (cst (.int 10))) (ov (cst (.int 18)))))))))) (rtS (opE subG (prdOk 3) (ov (fz (opE powG (ov (cst (.int 10))) (ov (cst (.int 18)))))))) skS)
    (rtS (callE f_law_mixed (consC (fz (opE addG (prdOk 3) (ov (fz (opE mulG (prdOk 2) (ov (cst (.int 1000003)))))))) (consC (vrd 1) nilC)))))) [.fr (.frl (ns.map .int)), .fr (.int p), .fr (.int f), .fr (.int m)]).bind (fun o => match o with
      | .rt r τ1 => some (r, back [.fr (.frl (ns.map .int)), .fr (.int p), .fr (.int f)] τ1)
      | .nx τ1 => some (⟨.non, false⟩, back [.fr (.frl (ns.map .int)), .fr (.int p), .fr (.int f)] τ1)
      | _ => none) = some (⟨.int r, false⟩, [.fr (.frl (ns.map .int)), .fr (.int p), .fr (.int f)]) := by
    have fin2 : ∀ m : Int, ∃ r : Int, ((sqS (ifS (andB (bT (opE eqG (prdOk 2) (ov (cst (.int 0))))) (andB (bT (opE ltG (prdOk 1) (ov (fz (calE lenG (consO (prdOk 0) nilO)))))) (bT (opE geG (prdOk 3) (ov (fz (opE powG (ov (cst (.int 10))) (ov (cst (.int 18)))))))))) (rtS (opE subG (prdOk 3) (ov (fz (opE powG (ov (cst (.int 10))) (ov (cst (.int 18)))))))) skS)
      (rtS (callE f_law_mixed (consC (fz (opE addG (prdOk 3) (ov (fz (opE mulG (prdOk 2) (ov (cst (.int 1000003)))))))) (consC (vrd 1) nilC))))) [.fr (.frl (ns.map .int)), .fr (.int p), .fr (.int f), .fr (.int m)]).bind (fun o => match o with
      | .rt r τ1 => some (r, back [.fr (.frl (ns.map .int)), .fr (.int p), .fr (.int f)] τ1)
      | .nx τ1 => some (⟨.non, false⟩, back [.fr (.frl (ns.map .int)), .fr (.int p), .fr (.int f)] τ1)
      | _ => none) = some (⟨.int r, false⟩, [.fr (.frl (ns.map .int)), .fr (.int p), .fr (.int f)]) := by
      intro m
      obtain ⟨r, hr⟩ := mixed_ok (m + f * 1000003) p
      by_cases c1 : f = 0
      · subst c1
        simp at hr
        by_cases c2 : p < ns.length <;> by_cases c3 : (1000000000000000000 : Int) ≤ m <;> simp [c2, c3, pw, m2, hr]
      · simp [c1, pw, m2, hr]
    intro m
    by_cases c : m < 0
    · obtain ⟨r, hr⟩ := fin2 (1 - 2 * m)
      refine ⟨r, ?_⟩
      rw [← hr]
      simp [c, m1, m2, pw]
    · obtain ⟨r, hr⟩ := fin2 m
      refine ⟨r, ?_⟩
      rw [← hr]
      simp [c, m2, pw]
  cases ns with
  | nil =>
    obtain ⟨r, hr⟩ := fin 0
    refine ⟨r, ?_⟩
    rw [← hr]
    simp [f_law_rest, b_law_rest, pw, m2] <;> rfl
  | cons n ns =>
    have hp : (0 : Int) < ((n :: ns).length : Int) := Int.ofNat_lt.mpr (Nat.succ_pos _)
    have g1 := Int.fmod_nonneg_of_pos p hp
    have g2 := Int.fmod_lt_of_pos p hp
    obtain ⟨x, hx⟩ := atI_ok g1 g2
    obtain ⟨r, hr⟩ := fin x
    refine ⟨r, ?_⟩
    rw [← hr]
    have hx2 : atI ((n :: ns).map T.int) (p.fmod ((n :: ns).length : Int)) = some (.int x) := by rw [atI_map, hx]; rfl
    have ne : ¬ ((n :: ns).length : Int) = 0 := by omega
    have lp : 0 < (n :: ns).length := Nat.succ_pos _
    have lne : ¬ (n :: ns) = [] := fun z => by cases z
    generalize hl : n :: ns = l at *
    simp [f_law_rest, b_law_rest, hx2, lp, lne, pw, m2] <;> rfl
/-- the pool -/
def PoolT (ns : List Int) (p r f : Int) : T := .lst [.frl (ns.map .int), .int p, .int r, .int f]
theorem pool_ok (ns : List Int) : ∃ r : Int, f_law_pool [.fr (.frl (ns.map .int))] = some (⟨PoolT ns 0 r 0, true⟩, [.fr (.frl (ns.map .int))]) := by
  obtain ⟨r, hr⟩ := rest_draw ns 0 0
  refine ⟨r, ?_⟩
  have z : 4 ≤ sizeLine := by decide
  simp [f_law_pool, b_law_pool, hr, PoolT, z]
theorem draw_ok (ns : List Int) (p r f l : Int) (hl : 0 < l) (hs : fdivOk l = true) : ∃ v r' f' : Int, f_law_draw [.ln (PoolT ns p r f), .fr (.int l)] = some (⟨.int v, false⟩, [.ln (PoolT ns p r' f'), .fr (.int l)]) ∧ 0 ≤ v ∧ v < l := by
  have ne : ¬ l = 0 := by omega
  by_cases c : r ≤ 1
  · obtain ⟨r2, hr⟩ := rest_draw ns p (f + 1)
    refine ⟨r2.fmod l, r2.fdiv l, f + 1, ?_, Int.fmod_nonneg_of_pos _ hl, Int.fmod_lt_of_pos _ hl⟩
    simp [f_law_draw, b_law_draw, PoolT, c, hr, atI, ixN, ne, hs]
  · refine ⟨r.fmod l, r.fdiv l, f, ?_, Int.fmod_nonneg_of_pos _ hl, Int.fmod_lt_of_pos _ hl⟩
    simp [f_law_draw, b_law_draw, PoolT, c, atI, ixN, ne, hs]
def b_law_next : Sls → Option Out :=
  (sqS (ixS 0 (fz (opE addG (ov (fz (opE ixG (prdOk 0) (ov (cst (.int 1)))))) (ov (cst (.int 1))))) (cst (.int 1)))
    (sqS (ixS 0 (fz (callE f_law_rest (consC (fz (opE ixG (prdOk 0) (ov (cst (.int 0))))) (consC (fz (opE ixG (prdOk 0) (ov (cst (.int 1))))) (consC (cst (.int 0)) nilC))))) (cst (.int 2)))
    (ixS 0 (cst (.int 0)) (cst (.int 3)))))
def f_law_next : FnS := fnS 0 b_law_next
def b_law_pick : Sls → Option Out :=
  (rtS (opE ixG (prdOk 1) (ov (fz (callE f_law_draw (plcC 0 (consC (fz (calE lenG (consO (prdOk 1) nilO))) nilC)))))))
def f_law_pick : FnS := fnS 0 b_law_pick
theorem next_ok (ns : List Int) (p r f : Int) : ∃ r' : Int, f_law_next [.ln (PoolT ns p r f)] = some (⟨.non, false⟩, [.ln (PoolT ns (p + 1) r' 0)]) := by
  obtain ⟨r2, hr⟩ := rest_draw ns (p + 1) 0
  refine ⟨r2, ?_⟩
  simp [f_law_next, b_law_next, PoolT, hr, atI, ixN]
theorem pick_ok (ns : List Int) (p r f : Int) (ds : List T) (h0 : ds ≠ []) (h1 : ds.length < 1000000) : ∃ (d : T) (r' f' : Int), d ∈ ds ∧ f_law_pick [.ln (PoolT ns p r f), .fr (.lst ds)] = some (⟨d, false⟩, [.ln (PoolT ns p r' f'), .fr (.lst ds)]) := by
  have hl : (0 : Int) < (ds.length : Int) := Int.ofNat_lt.mpr (List.length_pos_iff.mpr h0)
  obtain ⟨v, r', f', hd, v0, v1⟩ := draw_ok ns p r f ds.length hl (by
    unfold fdivOk
    rw [decide_eq_true (by omega : (ds.length : Int) ≠ 0), decide_eq_true (by omega : (ds.length : Int).natAbs < 1073741824)]
    rfl)
  have hv : v.toNat < ds.length := by omega
  refine ⟨ds[v.toNat], r', f', List.getElem_mem hv, ?_⟩
  have ha : atI ds v = some ds[v.toNat] := by
    unfold atI ixN
    rw [if_pos v0, if_pos v1, Option.bind_some, List.getElem?_eq_getElem hv]
  unfold PoolT at *
  simp [f_law_pick, b_law_pick, hd, ha]
end TR

namespace TR
open PySem L2

/-! ### loops, by what one turn does -/
def lcOne (g : T → Sls → Option Sls) (cnd : M Bool) (elt : M T) (own : List Nat) (d : T) : Sls → Option (Option T × Sls) := fun τ =>
  (g d τ).bind fun τ1 => (cnd τ1).bind fun p => if p.1 = true then (elt p.2).map fun q => (some q.1, wipeT own q.2) else some (none, wipeT own p.2)
theorem lcL_one {g : T → Sls → Option Sls} {cnd : M Bool} {elt : M T} {own : List Nat} {d : T} {r : List T} {τ τ' : Sls} {o : Option T} (h : lcOne g cnd elt own d τ = some (o, τ')) :
    lcL g cnd elt own (d :: r) τ = (lcL g cnd elt own r τ').map fun z => (o.toList ++ z.1, z.2) := by
  unfold lcOne at h
  obtain ⟨τ1, h1, h⟩ := Option.bind_eq_some_iff.mp h
  obtain ⟨p, h2, h⟩ := Option.bind_eq_some_iff.mp h
  rw [lcL, h1, Option.bind_some, h2, Option.bind_some]
  split at h
  · rename_i hp
    obtain ⟨q, h3, h⟩ := Option.map_eq_some_iff.mp h
    cases h
    rw [if_pos hp, h3, Option.bind_some]
    rfl
  · rename_i hp
    cases h
    rw [if_neg hp]
    cases lcL g cnd elt own r (wipeT own p.2) <;> rfl
theorem lcL_fm {g : T → Sls → Option Sls} {cnd : M Bool} {elt : M T} {own : List Nat} {τ : Sls} (e : T → Option T) : ∀ (ds : List T), (∀ d ∈ ds, lcOne g cnd elt own d τ = some (e d, τ)) → lcL g cnd elt own ds τ = some (ds.filterMap e, τ)
  | [], _ => rfl
  | d :: r, h => by
    rw [lcL_one (h d (by simp)), lcL_fm e r fun x hx => h x (by simp [hx])]
    cases hd : e d <;> simp [hd]
/-- .. where a turn changes the slots -/
theorem lcL_rel {g : T → Sls → Option Sls} {cnd : M Bool} {elt : M T} {own : List Nat} (R : Sls → Prop) (P : T → T → Prop) : ∀ (ds : List T), (∀ d ∈ ds, ∀ τ, R τ → ∃ x τ', lcOne g cnd elt own d τ = some (some x, τ') ∧ R τ' ∧ P d x) →
    ∀ τ, R τ → ∃ xs τ', lcL g cnd elt own ds τ = some (xs, τ') ∧ R τ' ∧ xs.length = ds.length ∧ ∀ (i : Nat) (d x : T), ds[i]? = some d → xs[i]? = some x → P d x
  | [], _, τ, hR => ⟨[], τ, rfl, hR, rfl, fun i d x h => by simp at h⟩
  | d :: r, h, τ, hR => by
    obtain ⟨x, τ1, h1, h2, h3⟩ := h d (by simp) τ hR
    obtain ⟨xs, τ2, h4, h5, h6, h7⟩ := lcL_rel R P r (fun y hy => h y (by simp [hy])) τ1 h2
    refine ⟨x :: xs, τ2, by rw [lcL_one h1, h4]; rfl, h5, by simp [h6], fun i d' x' e1 e2 => ?_⟩
    cases i with
    | zero => simp at e1 e2; subst e1 e2; exact h3
    | succ i => exact h7 i d' x' (by simpa using e1) (by simpa using e2)
theorem loopS_rel {α β : Type} {g : T → Sls → Option Sls} {body : Sls → Option Out} (R : α → Sls → Prop) (e : β → T) (st : α → β → α) : ∀ (xs : List β), (∀ s τ x, x ∈ xs → R s τ → ∃ τ', (g (e x) τ).bind body = some (.nx τ') ∧ R (st s x) τ') →
    ∀ s τ, R s τ → ∃ τ', loopS g body (xs.map e) τ = some (.nx τ') ∧ R (xs.foldl st s) τ'
  | [], _, s, τ, hR => ⟨τ, rfl, hR⟩
  | x :: r, h, s, τ, hR => by
    obtain ⟨τ1, h1, h2⟩ := h s τ x (by simp) hR
    obtain ⟨τ2, h3, h4⟩ := loopS_rel R e st r (fun s τ y hy => h s τ y (by simp [hy])) _ τ1 h2
    obtain ⟨τ0, g1, g2⟩ := Option.bind_eq_some_iff.mp h1
    refine ⟨τ2, ?_, h4⟩
    rw [List.map_cons, loopS, g1, Option.bind_some, g2]
    exact h3
def runW {α : Type} (done : α → Bool) (st : α → α) : Nat → α → Option α
  | 0, _ => none
  | n + 1, s => if done s = true then some s else runW done st n (st s)
theorem runW_mono {α : Type} {done : α → Bool} {st : α → α} : ∀ {n m : Nat} {s s' : α}, n ≤ m → runW done st n s = some s' → runW done st m s = some s'
  | 0, _, _, _, _, h => by cases h
  | n + 1, 0, _, _, h, _ => absurd h (by omega)
  | n + 1, m + 1, s, s', hl, h => by
    unfold runW at h ⊢
    split at h
    · rename_i hd; rw [if_pos hd]; exact h
    · rename_i hd; rw [if_neg hd]; exact runW_mono (by omega) h
theorem whS_rel {α : Type} {c : M Bool} {b : Sls → Option Out} (R : α → Sls → Prop) (done : α → Bool) (st : α → α) (hc : ∀ s τ, R s τ → ∃ τ', c τ = some (!done s, τ') ∧ R s τ')
    (hb : ∀ s τ, R s τ → done s = false → ∃ τ', b τ = some (.nx τ') ∧ R (st s) τ') : ∀ (n : Nat) (s s' : α) (τ : Sls), R s τ → runW done st n s = some s' → ∃ τ', whS c b n τ = some (.nx τ') ∧ R s' τ'
  | 0, _, _, _, _, h => by cases h
  | n + 1, s, s', τ, hR, h => by
    obtain ⟨τ1, h1, h2⟩ := hc s τ hR
    rw [whS, h1, Option.bind_some]
    unfold runW at h
    cases hd : done s with
    | true =>
      rw [if_pos hd] at h
      cases h
      exact ⟨τ1, rfl, h2⟩
    | false =>
      rw [if_neg (by rw [hd]; exact Bool.false_ne_true)] at h
      obtain ⟨τ2, h3, h4⟩ := hb s τ1 h2 hd
      obtain ⟨τ3, h5, h6⟩ := whS_rel R done st hc hb n _ s' τ2 h4 h
      refine ⟨τ3, ?_, h6⟩
      show ((b τ1).bind fun o => _) = _
      rw [h3]
      exact h5
theorem lc2L_fm {g : T → Sls → Option Sls} {it1 : M (List T)} {g1 : T → Sls → Option Sls} {cnd1 : M Bool} {elt : M T} {own vs1 : List Nat} {τ : Sls} (e : T → List T) : ∀ (ds : List T),
    (∀ d ∈ ds, ∃ τ1 es τ2 τ3, g d τ = some τ1 ∧ it1 τ1 = some (es, τ2) ∧ lcL g1 cnd1 elt vs1 es (wipeT vs1 τ2) = some (e d, τ3) ∧ wipeT own τ3 = τ) → lc2L g yesB it1 g1 cnd1 elt own vs1 ds τ = some (ds.flatMap e, τ)
  | [], _ => rfl
  | d :: r, h => by
    obtain ⟨τ1, es, τ2, τ3, h1, h2, h3, h4⟩ := h d (by simp)
    rw [lc2L, h1, Option.bind_some, ev_yesB, Option.bind_some, if_pos rfl, h2, Option.bind_some, h3, Option.bind_some, h4, lc2L_fm e r fun x hx => h x (by simp [hx])]
    rfl

/-! ### lists of bits -/
def eB (b : Bool) : T := .int (if b then 1 else 0)
def eL (l : List Bool) : T := .lst (l.map eB)
theorem eqvA_bits : ∀ a b : List Bool, eqvA (a.map eB) (b.map eB) = decide (a = b)
  | [], [] => rfl
  | [], _ :: _ => rfl
  | _ :: _, [] => rfl
  | x :: xs, y :: ys => by
    show ((eB x).eqv (eB y) && eqvA (xs.map eB) (ys.map eB)) = _
    rw [eqvA_bits]
    cases x <;> cases y <;> by_cases h : xs = ys <;> simp [h, eB, T.eqv]
theorem eqv_bits (a b : List Bool) : (eL a).eqv (eL b) = decide (a = b) := eqvA_bits a b
theorem layA_bits : ∀ a : List Bool, layA (a.map eB) = true
  | [] => rfl
  | x :: xs => by
    show ((eB x).lay && layA (xs.map eB)) = true
    rw [layA_bits]
    rfl
theorem depA_bits : ∀ a : List Bool, depA (a.map eB) = 0
  | [] => rfl
  | x :: xs => by
    show max (eB x).dep (depA (xs.map eB)) = 0
    rw [depA_bits]
    rfl
theorem shp_bits (a : List Bool) : (eL a).shp = true := by
  unfold T.shp
  have h1 : (eL a).lay = true := layA_bits a
  have h2 : (eL a).dep = 1 := by show depA (a.map eB) + 1 = 1; rw [depA_bits]
  rw [h1, h2]
  rfl
theorem layA_rows : ∀ a : List (List Bool), layA (a.map eL) = true
  | [] => rfl
  | x :: xs => by
    show ((eL x).lay && layA (xs.map eL)) = true
    rw [layA_rows, show (eL x).lay = true from layA_bits x]
    rfl
theorem depA_rows : ∀ a : List (List Bool), depA (a.map eL) ≤ 1
  | [] => by decide
  | x :: xs => by
    show max (eL x).dep (depA (xs.map eL)) ≤ 1
    have h2 : (eL x).dep = 1 := by show depA (x.map eB) + 1 = 1; rw [depA_bits]
    have := depA_rows xs
    omega
theorem shp_rows (a : List (List Bool)) : (T.lst (a.map eL)).shp = true := by
  unfold T.shp
  have h1 : (T.lst (a.map eL)).lay = true := layA_rows a
  have h2 : (T.lst (a.map eL)).dep ≤ 64 := by
    show depA (a.map eL) + 1 ≤ 64
    have := depA_rows a
    omega
  rw [h1, decide_eq_true h2]
  rfl
@[simp] theorem eq_bits (a b : List Bool) : eqG (eL a) (eL b) = some ⟨.bl (decide (a = b)), false⟩ := by
  unfold eqG
  rw [shp_bits, shp_bits, eqv_bits]
  rfl
@[simp] theorem ne_bits (a b : List Bool) : neG (eL a) (eL b) = some ⟨.bl (!decide (a = b)), false⟩ := by
  unfold neG
  rw [shp_bits, shp_bits, eqv_bits]
  rfl
theorem any_rows (a : List Bool) : ∀ s : List (List Bool), ((s.map eL).any fun z => z.eqv (eL a)) = s.any fun z => decide (z = a)
  | [] => rfl
  | x :: xs => by
    rw [List.map_cons, List.any_cons, List.any_cons, any_rows a xs, eqv_bits]
theorem nin_rows (a : List Bool) (s : List (List Bool)) : ninG (eL a) (.lst (s.map eL)) = some ⟨.bl (!s.any fun z => decide (z = a)), false⟩ := by
  unfold ninG inT
  dsimp only
  rw [shp_bits, shp_rows, any_rows]
  rfl
end TR

namespace TR
open PySem L2

/-! ### range with a step -/
def rngS (lo c : Int) : Nat → List T
  | 0 => []
  | n + 1 => .int lo :: rngS (lo + c) c n
theorem rngS_length : ∀ (n : Nat) (lo c : Int), (rngS lo c n).length = n
  | 0, _, _ => rfl
  | n + 1, lo, c => congrArg Nat.succ (rngS_length n _ _)
theorem rngS_get : ∀ (n : Nat) (lo c : Int) (i : Nat), i < n → (rngS lo c n)[i]? = some (.int (lo + (i : Nat) * c))
  | 0, _, _, _, h => absurd h (Nat.not_lt_zero _)
  | n + 1, lo, c, 0, _ => by simp [rngS]
  | n + 1, lo, c, i + 1, h => by
    rw [rngS, List.getElem?_cons_succ, rngS_get n (lo + c) c i (by omega)]
    congr 2
    have e : ((i + 1 : Nat) : Int) * c = (i : Int) * c + c := by
      rw [Int.natCast_add, Int.add_mul]
      simp
    rw [e]
    omega
theorem yld_rngC {K : PySem.W.Frag} {F : Hp} {lo c : Int} {n : Nat} : Yld K (Itc lo c n) F (rngS lo c n) := by
  refine ⟨fun H _ => Nat.le_of_eq (rngS_length n lo c).symm, fun i d H F1 hi s1 s2 => ?_⟩
  have hl : i < n := by
    have := (List.getElem?_eq_some_iff.mp hi).1
    rw [rngS_length] at this
    exact this
  rw [rngS_get n lo c i hl] at hi
  cases hi
  refine ⟨hl, fun x H' y => ?_⟩
  obtain ⟨rfl, rfl⟩ := y
  exact ⟨F1, .refl s2, .int _⟩
def rgcN (i j c : Int) : Option Nat := if (decide (c ≠ 0) && Nat.ble c.natAbs 1073741823 && Builtin.Range.small i j c && decide (Builtin.Range.rangeSize i j c = ((Builtin.Range.rangeSize i j c).toNat : Int))) = true then some (Builtin.Range.rangeSize i j c).toNat else none
theorem rgcN_ok {i j c : Int} {n : Nat} (h : rgcN i j c = some n) : RgC i j c n := by
  unfold rgcN at h
  split at h
  · rename_i hz
    cases h
    simp only [Bool.and_eq_true, decide_eq_true_eq] at hz
    exact ⟨hz.1.1.1, by have := Nat.le_of_ble_eq_true hz.1.1.2; omega, hz.1.2, hz.2⟩
  · cases h
theorem rgcN_down (i j : Int) (hi : rgOk i = true) (hj : rgOk j = true) : rgcN i j (-1) = some (i - j).toNat := by
  obtain ⟨i1, i2⟩ := rgOk_spec hi
  obtain ⟨j1, j2⟩ := rgOk_spec hj
  obtain ⟨h1, h2, h3, h4⟩ := RgC.neg i1 i2 j1 j2
  unfold rgcN
  rw [h3, h4, Int.toNat_natCast, decide_eq_true (rfl : (((i - j).toNat : Nat) : Int) = ((i - j).toNat : Nat))]
  exact if_pos (by decide)
def rng3 (f : M (List (Sls → Option T))) : M (List T) := fun τ => (f τ).bind fun p => (allRd p.1 p.2).bind fun ds => match ds with
  | [.int i, .int j, .int c] => (rgcN i j c).map fun n => (rngS i c n, p.2)
  | _ => none
theorem s_rng3 {K : PySem.W.Frag} {ta : TA} {f : M (List (Sls → Option T))} (h : SAO K ta f) : SI K (iRng3 ta) (rng3 f) := by
  intro τ τ' ds σ H F R e k c
  unfold rng3 at e
  obtain ⟨p, h1, e⟩ := Option.bind_eq_some_iff.mp e
  obtain ⟨as, h2, e⟩ := Option.bind_eq_some_iff.mp e
  split at e
  · obtain ⟨n, h3, e⟩ := Option.map_eq_some_iff.mp e
    cases e
    refine h τ p.2 p.1 σ H F _ h1 k fun vs H1 F1 k1 s1 l1 => ?_
    cases l1 _ _ _ _ k1 .refl h2 with
    | cons a b =>
      cases b with
      | cons b d =>
        cases d with
        | cons d d' =>
          cases d'
          rw [a.int, b.int, d.int]
          exact ⟨_, _, _, n, rfl, rgcN_ok h3, c _ H1 F1 k1 s1 yld_rngC⟩
  · cases e
theorem i_rng3 {X : Cx} {tg e e2 e3 : Expr} {ta : TA} {fa : M (List (Sls → Option T))} {p pos : Pos} (hg : Gl X "range") (hm : X.mg "range" = none) (ha : EAO X [e, e2, e3] ta fa)
    (hs : starEach [e, e2, e3] X.env = (false, eval e X.env) :: starEach [e2, e3] X.env := by rfl) (hpl : (backTo pos (starEach [e2, e3] X.env)).any (·.1) = false := by rfl) :
    EI X tg (.Call (.Name "range" p) [e, e2, e3] [] pos) (iRng3 ta) (rng3 fa) := ⟨pi_range3 hg hm ha.pe hs hpl, s_rng3 ha.s⟩
@[simp] theorem ev_rng3 {τ : Sls} {f : M (List (Sls → Option T))} : rng3 f τ = (f τ).bind fun p => (allRd p.1 p.2).bind fun ds => match ds with
  | [.int i, .int j, .int c] => (rgcN i j c).map fun n => (rngS i c n, p.2)
  | _ => none := id rfl
@[simp] theorem ev_unS5 {as : List Ag} {ss : Sls} {j : Nat} {s : Sl} (h : findP j as ss = none) : unS as ss j s = s := by
  unfold unS
  rw [h]
  cases s <;> rfl
@[simp] theorem ev_fp5 {j : Nat} {d : T} {as : List Ag} {ss : Sls} : findP j (.val d :: as) ss = findP j as ss.tail := by
  cases ss with
  | nil => cases as with
    | nil => rfl
    | cons a r => cases a <;> rfl
  | cons s r => cases s <;> rfl
end TR

namespace TR
open PySem L2 PyProof.Rows

/-! ### enumerate over a tuple -/
theorem enum_new1 {x : Value} {ob : Obj} {Hh : Heap → Prop} (B : Begins x ob Hh) : Meets (Builtin.«enumerate.__new__» ⟨[.type "enumerate", x], []⟩)
    (fun _ R s => Hh s.heap ∧ R (.ok (.ret (.ref (s.heap.push ob).objs.size)))
      { s with heap := (s.heap.push ob).push { cls := .type "enumerate", data := .fields #[.none, .bool false, .ref s.heap.objs.size, rawInt 0, .none, .none] } }) := by
  refine .of_wp fun prog w A R s hs => ?_
  obtain ⟨hp, gg, dd, tt, oo⟩ := s
  obtain ⟨hb, hs⟩ := hs
  have hsub := sub_enumerate
  have go : ∀ {A' : Around} {E' : Value → Shared → Prop} {Q' : Value → Shared → Prop}, Q' (.ref hp.objs.size) ⟨hp.push ob, gg, dd, tt, oo⟩ → wpAny (model prog w) A' (pyIter x) Q' E' ⟨hp, gg, dd, tt, oo⟩ := fun z => B.iter prog w _ _ ⟨hp, gg, dd, tt, oo⟩ _ hb z
  wp_walk using go
  refine wpAny_stack_any fun stk => wpAny_pure ?_
  split
  · rename_i cc _ _ _ _ _
    cases (cc == Value.type "enumerate") <;> (wp_walk using go; exact ⟨_, rfl, hs⟩)
  · wp_walk using go
    exact ⟨_, rfl, hs⟩
section
variable {prog : Program} {w : World} {A : Around} {E : Value → Shared → Prop} {s : Shared}
theorem enum_call1 {x : Value} {ob : Obj} {Hh : Heap → Prop} {Q : Value → Shared → Prop} (B : Begins x ob Hh) (hb : Hh s.heap)
    (k : ∀ g, IsEnum g (s.heap.objs.size + 1) s.heap.objs.size 0 .none → g.get? s.heap.objs.size = some ob → (∀ b o, s.heap.get? b = some o → g.get? b = some o) → Q (.ref (s.heap.objs.size + 1)) { s with heap := g }) :
    wpAny (model prog w) A (call (.type "enumerate") [x]) Q E s := by
  refine callType_new F.called_enumerate (by decide) (F.typeCall_enumerate_1 _) (F.newCall_enumerate_1 _) (fun y => F.args_object_init_2 y _) F.entry_enumerate_new (enum_new1 B) ⟨hb, ?_⟩
  have z : (s.heap.push ob).objs.size = s.heap.objs.size + 1 := Heap.size_push ..
  show _ ∧ _
  rw [z]
  have he : IsEnum ((s.heap.push ob).push { cls := .type "enumerate", data := .fields #[.none, .bool false, .ref s.heap.objs.size, rawInt 0, .none, .none] }) (s.heap.objs.size + 1) s.heap.objs.size 0 .none := by
    have q := Heap.get?_push_size (s.heap.push ob) (o := { cls := .type "enumerate", data := .fields #[.none, .bool false, .ref s.heap.objs.size, rawInt 0, .none, .none] }) rfl
    rw [z] at q
    exact q
  exact ⟨⟨_, he, rfl⟩, k _ he (Heap.get?_push_of_some _ (Heap.get?_push_size _ B.free)) fun b o e => Heap.get?_push_of_some _ (Heap.get?_push_of_some _ e)⟩
end
def IteT (K : PySem.W.Frag) (a : Addr) : It :=
  ⟨fun i H => ∃ (xs : List V) (x : V), SqT K H a xs ∧ xs[i]? = some x,
    fun i H v H' => ∃ q x, v = .ref q ∧ H q = none ∧ H' = upd H q (.tup [.int (i : Nat), x]) ∧ ∀ xs, SqT K H a xs → xs[i]? = some x,
    fun i H => ∃ xs : List V, SqT K H a xs ∧ xs.length ≤ i⟩
theorem turn_enumT {P : Program} {w : World} {K : PySem.W.Frag} {elts : List Expr} {kk : Nat} {tpos : Pos} (a e it : Addr) :
    Turn P w K (.Tuple elts kk tpos) (IteT K a) [e, it] e (fun i h => (∃ old, IsEnum h e it ((i : Nat) : Int) old) ∧ h.IsTupleIter it a i ∧ e ≠ it) where
  mem := by simp
  obj := fun i h st b hb => by
    obtain ⟨⟨old, he⟩, ⟨o, ho, hc, hd⟩, _⟩ := st
    rcases (show b = e ∨ b = it by simpa using hb) with z | z
    · subst z
      exact ⟨_, he, fun v q => nomatch q⟩
    · subst z
      exact ⟨o, ho, fun v q => by rw [hd] at q; cases q⟩
  keep := fun i h h' st k => by
    obtain ⟨⟨old, he⟩, hi, hne⟩ := st
    exact ⟨⟨old, k e (by simp) _ he⟩, hi.at fun o q => k it (by simp) o q, hne⟩
  item := by
    intro X hP hw hK hc i pins s σ H E I hf st hg
    subst hP hw hK
    obtain ⟨⟨old, he⟩, hit, hne⟩ := st
    obtain ⟨xs, x, hq, hx⟩ := hg
    obtain ⟨its, rv, p, hz⟩ := I.tuple hq
    obtain ⟨u, hu, ru⟩ := rv.get hx
    have hpt : s.heap.IsTuple a its.toArray := p
    have hai : a ≠ it := fun z => by
      obtain ⟨o1, g1, c1, _⟩ := hpt
      obtain ⟨o2, g2, c2, _⟩ := hit
      rw [z, g2] at g1
      cases g1
      rw [c2] at c1
      exact absurd c1 (by decide)
    have hea : e ≠ a := fun z => by
      obtain ⟨o1, g1, c1, _⟩ := hpt
      have g2 : s.heap.get? e = some _ := he
      rw [z, g1] at g2
      cases g2
      have c2 : (Value.type "enumerate") = .type "tuple" := c1
      exact absurd c2 (by decide)
    have hel : e < s.heap.objs.size := Heap.lt_size he
    have hil : it < s.heap.objs.size := by
      obtain ⟨_, q, _⟩ := id hit
      exact Heap.lt_size q
    have D := Draws.tuple (prog := X.prog) (w := X.w) (A := X.A.in1) (I.ok.hd hc) it a hai its.toArray
    have hlt : i < its.toArray.size := by
      have q := (List.getElem?_eq_some_iff.mp hu).1
      simpa using q
    refine wpAny_pyNext_enum_itemC D he ⟨hit, hpt⟩ hlt hne (by simp [hne, hea]) fun y h' tk hy ho hst' hT hsz hk => ?_
    have hyu : y = u := by
      have q : its.toArray[i]? = some u := by simpa using hu
      rw [q] at hy
      exact (Option.some.inj hy).symm
    subst hyu
    refine ⟨_, rfl, wpAny_letOwnedTupleGo_enum (s := { s with heap := h', toks := tk + 1 }) ho fun h2 he2 sb => ?_⟩
    have hT2 : h2.get? s.heap.objs.size = some { cls := .type "tuple", data := .seq #[.int i tk, y] } := (sb.2 _ (Nat.ne_of_gt hel)).trans hT
    have nw : ObjOk X.prog X.w (upd H s.heap.objs.size (.tup [.int (i : Nat), x])) h2 s.heap.objs.size (.tup [.int (i : Nat), x]) := by
      refine ⟨?_, [.int i tk, y], .cons ⟨_, rfl⟩ (.cons ru .nil), ⟨_, hT2, rfl, _, rfl⟩⟩
      show 2 ≤ sizeLine
      decide
    have I1 : Inv X pins σ (upd H s.heap.objs.size (.tup [.int (i : Nat), x])) { s with heap := h2, toks := tk + 1 } := by
      refine I.turnedNew (ch := [e, it]) (fun b ob hb q => ?_) hf (Nat.le_refl _) nw
      have b1 : b ≠ e := fun z => hb (by simp [z])
      have b2 : b ≠ it := fun z => hb (by simp [z])
      exact (sb.2 b b1).trans (hk b ob b1 b2 q)
    refine ⟨.ref s.heap.objs.size, _, I1, rfl, ⟨_, x, rfl, I.hok.fresh (Nat.le_refl _), rfl, fun ys hy => ?_⟩, ⟨⟨y, ?_⟩, hst'.1.at fun o q => (sb.2 it (Ne.symm hne)).trans q, hne⟩, fun b hb => ?_⟩
    · rw [I.tuple_inj hy hq]
      exact hx
    · rw [show ((i + 1 : Nat) : Int) = (i : Int) + 1 by omega]
      exact he2
    · have hb2 : b < s.heap.objs.size := by
        rcases (show b = e ∨ b = it by simpa using hb) with z | z
        · rw [z]; exact hel
        · rw [z]; exact hil
      rw [upd_ne (Nat.ne_of_lt hb2)]
      exact (hf b hb).1
  done := by
    intro X hP hw hK hc i pins s σ H E I hf st hg
    subst hP hw hK
    obtain ⟨⟨old, he⟩, hit, hne⟩ := st
    obtain ⟨xs, hq, hx⟩ := hg
    obtain ⟨its, rv, p, hz⟩ := I.tuple hq
    have hpt : s.heap.IsTuple a its.toArray := p
    have hl := rv.length
    have D : Draws X.prog X.w X.A.in1 it [it, a] i (fun _ _ => True) (fun j h => j = i ∧ h.IsTupleIter it a i ∧ h.IsTuple a its.toArray) := {
      live := fun _ _ st => let ⟨o, ho, _⟩ := st.2.1; ⟨o, ho⟩
      frame := fun _ _ _ st hk => ⟨st.1, st.2.1.at fun o q => hk it (by simp) o q, st.2.2.at fun o q => hk a (by simp) o q⟩
      item := fun j s Q E hi st hQ => absurd st.1 (Nat.ne_of_lt hi)
      done := fun s Q E st hE => wpAny_nextOf_tuple_end (I.ok.hd hc) st.2.1 st.2.2 (by simp; omega) hE }
    obtain ⟨f0, f1, f2, f3, f4, f5⟩ := hf it (by simp)
    exact wpAny_pyNext_enum_endD D he ⟨rfl, hit, hpt⟩ fun h' eb => ⟨rfl, I.turned (t' := s.toks) (fun b o hb q => eb b o hb q) f0 f1 f3 f4 f5⟩
  self := fun A i s Q E st h => let ⟨⟨_, he⟩, _⟩ := st; wpAny_pyIter_enum he h
def iEnumT (K : PySem.W.Frag) (ta : TA) : TI := fun σ H R => ta σ H fun vs H1 => ∃ a xs, vs = [.ref a] ∧ SqT K H1 a xs ∧ R (IteT K a) H1
theorem pi_enumT {X : Cx} {e : Expr} {ta : TA} {p pos tpos : Pos} {elts : List Expr} {kk : Nat} (hg : Gl X "enumerate") (hm : X.mg "enumerate" = none) (ha : PA X [e] ta) (hs : starEach [e] X.env = [(false, eval e X.env)] := by rfl) :
    PI X (.Tuple elts kk tpos) (.Call (.Name "enumerate" p) [e] [] pos) (iEnumT X.K ta) := by
  refine ⟨fun pins s σ H R I h => ?_⟩
  refine Call_ (ld_blt I hg hm boot_enumerate (PyProof.Rows.callWith_type1 (thn (ha.run pos pins s σ H _ I h) fun us s1 ⟨vs, H1, I1, r1, q1⟩ => ?_) hs rfl))
  obtain ⟨a, xs, ex, hq, q⟩ := q1
  subst ex
  cases r1 with
  | cons r rr =>
    cases rr
    obtain rfl := r
    obtain ⟨its, rv, pt, hz⟩ := I1.tuple hq
    have hpt : s1.heap.IsTuple a its.toArray := pt
    refine enum_call1 (begins_tuple a its.toArray) hpt fun g he hit hk => wpAny_pyIter_enum he ?_
    have I2 : Inv X pins σ H1 { s1 with heap := g } := I1.kept (t' := s1.toks) hk
    refine ⟨s1.heap.objs.size + 1, [s1.heap.objs.size + 1, s1.heap.objs.size], _, _, H1, rfl, I2, turn_enumT a (s1.heap.objs.size + 1) s1.heap.objs.size, ⟨⟨.none, he⟩, ⟨_, hit, rfl, rfl⟩, Nat.succ_ne_self _⟩, fun b hb => ?_, q⟩
    have hle : s1.heap.objs.size ≤ b := by
      rcases (show b = s1.heap.objs.size + 1 ∨ b = s1.heap.objs.size by simpa using hb) with z | z
      · rw [z]; exact Nat.le_succ _
      · rw [z]; exact Nat.le_refl _
    exact I1.fpOk hle (I1.hok.fresh hle)
/-- enumerate over a tuple laid down -/
def enuTI (fa : M (List T)) : M (List T) := fun τ => (fa τ).bind fun p => match p.1 with
  | [.tup ds] => some (enuT 0 ds, p.2)
  | _ => none
theorem i_enumT {X : Cx} {e : Expr} {ta : TA} {fa : M (List T)} {p pos tpos : Pos} {elts : List Expr} {kk : Nat} (hg : Gl X "enumerate") (hm : X.mg "enumerate" = none) (ha : EAV X [e] ta fa) (hs : starEach [e] X.env = [(false, eval e X.env)] := by rfl) :
    EI X (.Tuple elts kk tpos) (.Call (.Name "enumerate" p) [e] [] pos) (iEnumT X.K ta) (enuTI fa) := by
  refine ⟨pi_enumT hg hm ha.pe hs, ?_⟩
  intro τ τ' ds σ H F R ee k c
  unfold enuTI at ee
  obtain ⟨q, h1, ee⟩ := Option.bind_eq_some_iff.mp ee
  split at ee
  · rename_i es hq
    cases ee
    refine ha.s τ q.2 q.1 σ H F _ h1 k fun vs H1 F1 k1 s1 r1 => ?_
    rw [hq] at r1
    cases r1 with
    | cons a b =>
      cases b
      cases a with
      | tup hF ra =>
        rename_i aa ws
        refine ⟨aa, ws, rfl, SqT.of (k1.sub _ _ hF), c _ H1 F1 k1 s1 ⟨fun H2 s2 => ⟨ws, SqT.of (s2 _ _ hF), by rw [enuT_length, ra.length]; exact Nat.le_refl _⟩, fun i d H2 F2 hi s2 s3 => ?_⟩⟩
        rw [enuT_get] at hi
        obtain ⟨d', hd, rfl⟩ := Option.map_eq_some_iff.mp hi
        obtain ⟨v, hv, rv⟩ := ra.get hd
        have hq2 : SqT X.K H2 aa ws := SqT.of (s3 _ _ (s2 _ _ hF))
        refine ⟨⟨ws, v, hq2, hv⟩, fun x H3 y => ?_⟩
        obtain ⟨T', x', rfl, hT, rfl, hx⟩ := y
        have hx' := hx ws hq2
        rw [hv] at hx'
        cases hx'
        have g := Grow.upd (o := .tup [.int (i : Nat), v]) s3 hT
        refine ⟨_, g, .tup upd_same (.cons ?_ (.one (rv.mono (s2.trans g.ff))))⟩
        rw [Nat.zero_add]
        exact .int _
  · cases ee
@[simp] theorem ev_enuTI {τ : Sls} {fa : M (List T)} : enuTI fa τ = (fa τ).bind fun p => match p.1 with
  | [.tup ds] => some (enuT 0 ds, p.2)
  | _ => none := id rfl
end TR

namespace TR
open PySem L2 PyProof.Rows PyProof.V

/-! ### sum of a tuple -/
def rSumA (K : PySem.W.Frag) : List V → Hp → VK → Prop := fun vs H Q => ∃ (a : Addr) (ns : List Int), vs = [V.ref a] ∧ SqT K H a (ns.map V.int) ∧ Q (.int ns.sum) H
theorem cr_sumT {X : Cx} (hc : X.calm = true) : CallR X (.builtin "sum") (rSumA X.K) := by
  intro pins s σ H vs us Q I r h
  obtain ⟨a, ns, rfl, hs, q⟩ := h
  obtain ⟨its, rv, hl, _⟩ := I.tuple hs
  rw [Vals.ref1 r]
  have hi : PyProof.Rows.IntsAre its ns := rv.ints
  obtain ⟨xs, e⟩ := hi.allInts.items
  have hn : numsOf (intItems xs).toList = ns := by
    rw [← e]
    exact hi.numsOf
  rw [nums_intItems] at hn
  have hl2 : s.heap.IsTuple a its.toArray := hl
  rw [e] at hl2
  refine PySem.W.ktm_sumG (I.ok.hd hc) hl2 fun h' tk t' hk => ?_
  refine ⟨.int _, H, I.kept hk, ⟨_, rfl⟩, ?_⟩
  rw [preSum_eq, List.take_of_length_le (by simp), hn]
  exact q
def sumA (as : List T) : Option R := match as with
  | [.tup ds] => (intsOf ds).map fun ns => ri ns.sum
  | as => sumG as
theorem s_sumA {K : PySem.W.Frag} : RLS K (fun xs H Q => rSum K xs H Q ∨ rSumA K xs H Q) sumA := by
  intro xs as res F H Q e s l c
  unfold sumA at e
  split at e
  · rename_i ds
    obtain ⟨ns, h1, e⟩ := Option.map_eq_some_iff.mp e
    cases e
    obtain ⟨x, rfl, y⟩ := l.one
    obtain ⟨p, vs, rfl, hp, ap⟩ := y.tup s
    refine .inr ⟨p, ns, rfl, ?_, here s (.int _) c⟩
    rw [← intsOf_rp h1 ap]
    exact SqT.of hp
  · exact .inl (s_sum xs _ res F H Q e s l c)
theorem cr_sumA {X : Cx} (hc : X.calm = true) : CallR X (.builtin "sum") (fun xs H Q => rSum X.K xs H Q ∨ rSumA X.K xs H Q) := CallR.or (cr_sum hc) (cr_sumT hc)

/-! ### max, min of a tuple of ints -/
theorem ints_reads {h : Heap} : ∀ {its : List Value} {ns : List Int}, Vals (ns.map V.int) its → ReadsAll h its (ns.map PyData.int) []
  | _, [], .nil => .nil
  | _, n :: r, .cons a b => by
    obtain ⟨t, rfl⟩ := a
    exact .cons (.int n t) (ints_reads b)
theorem ints_alike (ns : List Int) : PySem.W.AlikeAll (ns.map PyData.int) := by
  refine ⟨fun x hx y hy => ?_, fun x hx => ?_⟩
  · obtain ⟨a, _, rfl⟩ := List.mem_map.mp hx
    obtain ⟨b, _, rfl⟩ := List.mem_map.mp hy
    rfl
  · obtain ⟨a, _, rfl⟩ := List.mem_map.mp hx
    exact nofun
theorem ints_depth : ∀ ns : List Int, PyData.depthAll (ns.map PyData.int) = 0
  | [] => rfl
  | n :: r => by
    show max (PyData.depth (.int n)) (PyData.depthAll (r.map PyData.int)) = 0
    rw [ints_depth r]
    rfl
def rMaxA (K : PySem.W.Frag) : List V → Hp → VK → Prop := fun vs H Q => ∃ (a : Addr) (n : Int) (ns : List Int), vs = [V.ref a] ∧ SqT K H a ((n :: ns).map V.int) ∧ Q (.int (ns.foldl max n)) H
def rMinA (K : PySem.W.Frag) : List V → Hp → VK → Prop := fun vs H Q => ∃ (a : Addr) (n : Int) (ns : List Int), vs = [V.ref a] ∧ SqT K H a ((n :: ns).map V.int) ∧ Q (.int (ns.foldl min n)) H
theorem cr_maxT {X : Cx} (hc : X.calm = true) (hu : X.A.units + 64 < cLine) : CallR X (.builtin "max") (rMaxA X.K) := by
  intro pins s σ H vs us Q I r h
  obtain ⟨a, n, ns, rfl, hs, q⟩ := h
  obtain ⟨its, rv, hl, _⟩ := I.tuple hs
  rw [Vals.ref1 r]
  have hl2 : s.heap.IsTuple a its.toArray := hl
  refine PySem.W.max_tuple_data (x := .int n) (xs := ns.map PyData.int) (I.ok.hd hc) hl2 (ints_reads (ns := n :: ns) rv) (ints_alike (n :: ns)) (by have := ints_depth (n :: ns); rw [List.map_cons] at this; rw [this]; omega) fun i v h' tk bs hv rd hk => ?_
  rw [PySem.W.maxD_ints] at rd
  cases rd with
  | int i t => exact ⟨.int _, H, I.kept hk, ⟨_, rfl⟩, q⟩
theorem cr_minT {X : Cx} (hc : X.calm = true) (hu : X.A.units + 64 < cLine) : CallR X (.builtin "min") (rMinA X.K) := by
  intro pins s σ H vs us Q I r h
  obtain ⟨a, n, ns, rfl, hs, q⟩ := h
  obtain ⟨its, rv, hl, _⟩ := I.tuple hs
  rw [Vals.ref1 r]
  have hl2 : s.heap.IsTuple a its.toArray := hl
  refine PySem.W.min_tuple_data (x := .int n) (xs := ns.map PyData.int) (I.ok.hd hc) hl2 (ints_reads (ns := n :: ns) rv) (ints_alike (n :: ns)) (by have := ints_depth (n :: ns); rw [List.map_cons] at this; rw [this]; omega) fun i v h' tk bs hv rd hk => ?_
  rw [PySem.W.minD_ints] at rd
  cases rd with
  | int i t => exact ⟨.int _, H, I.kept hk, ⟨_, rfl⟩, q⟩
def maxA (as : List T) : Option R := match as with
  | [.tup ds] => (intsOf ds).bind fun ns => match ns with
    | n :: r => some (ri (r.foldl max n))
    | [] => none
  | as => maxG as
def minA (as : List T) : Option R := match as with
  | [.tup ds] => (intsOf ds).bind fun ns => match ns with
    | n :: r => some (ri (r.foldl min n))
    | [] => none
  | as => minG as
theorem s_maxA {K : PySem.W.Frag} : RLS K (fun xs H Q => rMax K xs H Q ∨ rMaxA K xs H Q) maxA := by
  intro xs as res F H Q e s l c
  unfold maxA at e
  split at e
  · rename_i ds
    obtain ⟨ns, h1, e⟩ := Option.bind_eq_some_iff.mp e
    split at e
    · rename_i n r
      cases e
      obtain ⟨x, rfl, y⟩ := l.one
      obtain ⟨p, vs, rfl, hp, ap⟩ := y.tup s
      refine .inr ⟨p, n, r, rfl, ?_, here s (.int _) c⟩
      rw [← intsOf_rp h1 ap]
      exact SqT.of hp
    · cases e
  · exact .inl (s_max xs _ res F H Q e s l c)
theorem s_minA {K : PySem.W.Frag} : RLS K (fun xs H Q => rMin K xs H Q ∨ rMinA K xs H Q) minA := by
  intro xs as res F H Q e s l c
  unfold minA at e
  split at e
  · rename_i ds
    obtain ⟨ns, h1, e⟩ := Option.bind_eq_some_iff.mp e
    split at e
    · rename_i n r
      cases e
      obtain ⟨x, rfl, y⟩ := l.one
      obtain ⟨p, vs, rfl, hp, ap⟩ := y.tup s
      refine .inr ⟨p, n, r, rfl, ?_, here s (.int _) c⟩
      rw [← intsOf_rp h1 ap]
      exact SqT.of hp
    · cases e
  · exact .inl (s_min xs _ res F H Q e s l c)
theorem cr_maxA {X : Cx} (hc : X.calm = true) (hu : X.A.units + 64 < cLine) : CallR X (.builtin "max") (fun xs H Q => rMax X.K xs H Q ∨ rMaxA X.K xs H Q) := CallR.or (cr_max hc) (cr_maxT hc hu)
theorem cr_minA {X : Cx} (hc : X.calm = true) (hu : X.A.units + 64 < cLine) : CallR X (.builtin "min") (fun xs H Q => rMin X.K xs H Q ∨ rMinA X.K xs H Q) := CallR.or (cr_min hc) (cr_minT hc hu)
end TR

namespace TR
open PySem L2 PyProof.Rows PyProof.V

/-! ### min of a list of alike data -/
def minT (d : T) (r : List T) : T := r.foldl (fun a y => if PySem.W.dataLt y.toD a.toD = true then y else a) d
theorem minT_toD : ∀ (r : List T) (d : T), (minT d r).toD = PySem.W.minD d.toD (r.map T.toD)
  | [], d => rfl
  | y :: r, d => by
    show (minT (if PySem.W.dataLt y.toD d.toD = true then y else d) r).toD = PySem.W.minD (if PySem.W.dataLt y.toD d.toD = true then y.toD else d.toD) (r.map T.toD)
    rw [minT_toD r]
    split <;> rfl
theorem minT_mem : ∀ (r : List T) (d : T), minT d r ∈ d :: r
  | [], d => by simp [minT]
  | y :: r, d => by
    have ih := minT_mem r (if PySem.W.dataLt y.toD d.toD = true then y else d)
    show minT (if PySem.W.dataLt y.toD d.toD = true then y else d) r ∈ d :: y :: r
    rcases List.mem_cons.mp ih with h | h
    · rw [h]
      split <;> simp
    · simp [h]
def isInt : T → Bool
  | .int _ => true
  | _ => false
/-- tuples of ints -/
def isTI : T → Bool
  | .tup xs => xs.all isInt
  | _ => false
theorem ints_inj : ∀ (xs ys : List T), xs.all isInt = true → ys.all isInt = true → toDA xs = toDA ys → xs = ys
  | [], [], _, _, _ => rfl
  | [], y :: ys, _, _, h => by cases h
  | x :: xs, [], _, _, h => by cases h
  | x :: xs, y :: ys, h1, h2, h => by
    rw [List.all_cons, Bool.and_eq_true] at h1 h2
    have e1 : x.toD = y.toD := by
      have := congrArg (fun l => l.head?) h
      exact Option.some.inj this
    have e2 : toDA xs = toDA ys := by
      have := congrArg (fun l => l.tail) h
      exact this
    rw [ints_inj xs ys h1.2 h2.2 e2]
    congr 1
    cases x with
    | int i =>
      cases y with
      | int j =>
        have e3 : PyData.int i = .int j := e1
        cases e3
        rfl
      | _ => cases h2.1
    | _ => cases h1.1
theorem ti_inj {a b : T} (ha : isTI a = true) (hb : isTI b = true) (h : a.toD = b.toD) : a = b := by
  cases a with
  | tup xs =>
    cases b with
    | tup ys =>
      have e : PyData.tuple (toDA xs) = .tuple (toDA ys) := h
      have e2 : toDA xs = toDA ys := by
        injection e
      rw [ints_inj xs ys ha hb e2]
    | _ => cases hb
  | _ => cases ha
theorem vals_at : ∀ {vs : List V} {us : List Value} {i : Nat} {u : Value}, Vals vs us → us[i]? = some u → ∃ v, vs[i]? = some v ∧ RelV v u
  | _, _, _, _, .nil, h => by simp at h
  | _, _, 0, _, .cons a _, h => by simp at h; subst h; exact ⟨_, rfl, a⟩
  | _, _, i + 1, u, .cons _ b, h => by
    obtain ⟨v, h1, h2⟩ := vals_at (i := i) (u := u) b (by simpa using h)
    exact ⟨v, by simpa using h1, h2⟩
theorem dp_at {K : PySem.W.Frag} {H : Hp} : ∀ {vs : List V} {ds : List PyData} {i : Nat} {v : V}, DpAll K H vs ds → vs[i]? = some v → ∃ d, ds[i]? = some d ∧ Dp K H v d
  | _, _, _, _, .nil, h => by simp at h
  | _, _, 0, _, .cons a _, h => by simp at h; subst h; exact ⟨_, rfl, a⟩
  | _, _, i + 1, v, .cons _ b, h => by
    obtain ⟨d, h1, h2⟩ := dp_at (i := i) (v := v) b (by simpa using h)
    exact ⟨d, by simpa using h1, h2⟩
def rMinDt (K : PySem.W.Frag) : List V → Hp → VK → Prop := fun xs H Q => ∃ (a : Addr) (vs : List V) (d0 : T) (dr : List T), xs = [.ref a] ∧ SqL K H a vs ∧ DpAll K H vs (toDA (d0 :: dr)) ∧ PySem.W.AlikeAll (toDA (d0 :: dr)) ∧ PyData.depthAll (toDA (d0 :: dr)) ≤ 62 ∧
  ∀ (i : Nat) (v : V) (d : PyData), vs[i]? = some v → (toDA (d0 :: dr))[i]? = some d → d = (minT d0 dr).toD → Q v H
theorem cr_minDt {X : Cx} (hc : X.calm = true) (hu : X.A.units + 64 < cLine) : CallR X (.builtin "min") (rMinDt X.K) := by
  intro pins s σ H xs us Q I r h
  obtain ⟨a, vs, d0, dr, rfl, hs, hd, al, dpt, q⟩ := h
  obtain ⟨its, rv, hl, _⟩ := I.list hs
  rw [Vals.ref1 r]
  obtain ⟨as, hr⟩ := Dp.readsAll I _ _ _ hd rv
  refine PySem.W.min_list_data (x := d0.toD) (xs := toDA dr) (I.ok.hd hc) hl.isList hr al (by have : PyData.depthAll (d0.toD :: toDA dr) ≤ 62 := dpt; omega) fun i v h' tk bs hv rd hk => ?_
  obtain ⟨x, hx, rx⟩ := vals_at rv (i := i) (u := v) (by simpa using hv)
  obtain ⟨d, hdi, hdp⟩ := dp_at hd hx
  obtain ⟨cs, hrd⟩ := Dp.reads I _ _ _ hdp rx
  have hrd2 := PySem.W.reads_keeps hk hrd
  have e : d = (minT d0 dr).toD := by
    rw [minT_toD, ← toDA_map]
    exact (Reads.unique hrd2 _ _ rd).1
  exact ⟨x, H, I.kept hk, rx, q i x d hx hdi e⟩
def minOk (ds : List T) : Bool := ds.all isTI && (layA ds && (Nat.ble (depA ds) 60 && ds.all fun a => ds.all fun b => PySem.W.alike a.toD b.toD))
def minB (as : List T) : Option R := match as with
  | [.lst (d :: r)] => if minOk (d :: r) = true then some ⟨minT d r, false⟩ else minA as
  | as => minA as
theorem s_minB {K : PySem.W.Frag} : RLS K (fun xs H Q => (rMin K xs H Q ∨ rMinA K xs H Q) ∨ rMinDt K xs H Q) minB := by
  intro xs as res F H Q e s l c
  unfold minB at e
  split at e
  · rename_i d r
    split at e
    · rename_i ok
      cases e
      obtain ⟨x, rfl, y⟩ := l.one
      obtain ⟨p, vs, rfl, hp, ap⟩ := y.lst s
      unfold minOk at ok
      simp only [Bool.and_eq_true, List.all_eq_true] at ok
      obtain ⟨o1, o2, o3, o4⟩ := ok
      have dpt : PyData.depthAll (toDA (d :: r)) ≤ 62 := by
        have h1 := Nat.le_of_ble_eq_true o3
        have h2 : PyData.depthAll (toDA (d :: r)) = depA (d :: r) := dep_toDA _
        omega
      refine .inr ⟨p, vs, d, r, rfl, SqL.of hp, (ap.mono s).dp o2, ⟨fun a ha b hb => ?_, fun a ha => ?_⟩, dpt, fun i v dd hv hd hq => ?_⟩
      · rw [toDA_map] at ha hb
        obtain ⟨a', ha', rfl⟩ := List.mem_map.mp ha
        obtain ⟨b', hb', rfl⟩ := List.mem_map.mp hb
        exact o4 a' ha' b' hb'
      · rw [toDA_map] at ha
        obtain ⟨a', ha', rfl⟩ := List.mem_map.mp ha
        have := o1 a' ha'
        cases a' with
        | tup xs => exact nofun
        | _ => cases this
      · obtain ⟨t, ht, rt⟩ := ap.getV hv
        rw [toDA_map, List.getElem?_map, ht] at hd
        cases hd
        have em : t = minT d r := ti_inj (o1 t (List.mem_of_getElem? ht)) (o1 _ (minT_mem r d)) hq
        subst em
        exact here s rt c
    · exact .inl (s_minA xs _ res F H Q e s l c)
  · exact .inl (s_minA xs _ res F H Q e s l c)
theorem cr_minB {X : Cx} (hc : X.calm = true) (hu : X.A.units + 64 < cLine) : CallR X (.builtin "min") (fun xs H Q => (rMin X.K xs H Q ∨ rMinA X.K xs H Q) ∨ rMinDt X.K xs H Q) := CallR.or (cr_minA hc hu) (cr_minDt hc hu)
end TR

namespace TR
open PySem L2 PyProof.Rows PyProof.V

/-! ### t[::-1] of a tuple -/
section
variable {prog : Program} {w : World} {A : Around} {E : Value → Shared → Prop} {s : Shared}
theorem applied_back {sl : Addr} {u : Tok} {n : Nat} {Q : Int × Int × Nat → Shared → Prop} (hs : s.heap.IsSliceOf sl .none .none (.int (-1) u)) (h : Q ((n : Int) - 1, -1, n) s) :
    wpAny (model prog w) A (Builtin.Slice.sliceApplied (.ref sl) (pure (n : Int))) Q E s := by
  obtain ⟨ob, hob, hcb, hdb⟩ := id hs
  unfold Builtin.Slice.sliceApplied; unfold Builtin.Slice.sliceFields
  refine wpAny_bind (wpAny_bind (wpAny_field hob hdb (x := .none) rfl (wpAny_bind (wpAny_field hob hdb (x := .none) rfl (wpAny_bind (wpAny_field hob hdb (x := .int (-1) u) rfl (wpAny_pure ?_)))))))
  refine wpAny_bind (slicePart_int ?_)
  show wpAny _ _ (if ((-1 : Int) == 0) = true then _ else _) _ _ s
  rw [if_neg (by decide)]
  refine wpAny_bind (slicePart_none (wpAny_bind (slicePart_none (wpAny_bind (wpAny_pure ?_)))))
  show wpAny _ _ (match Builtin.Slice.sliceAdjust none none (-1) (n : Int) with | (lo, hi) => pure (lo, (-1 : Int), Builtin.Slice.slicePlaces lo hi (-1))) _ _ s
  have e1 : Builtin.Slice.sliceAdjust none none (-1) (n : Int) = ((n : Int) - 1, -1) := by
    unfold Builtin.Slice.sliceAdjust
    simp
  have e2 : Builtin.Slice.slicePlaces ((n : Int) - 1) (-1) (-1) = n := by
    unfold Builtin.Slice.slicePlaces
    simp
    omega
  rw [e1]
  show wpAny _ _ (pure ((n : Int) - 1, (-1 : Int), Builtin.Slice.slicePlaces ((n : Int) - 1) (-1) (-1))) _ _ s
  rw [e2]
  exact wpAny_pure h
theorem pick_back (xs : Array Value) : ((List.range xs.size).filterMap fun (m : Nat) => xs[(((xs.size : Int) - 1) + (m : Int) * (-1)).toNat]?) = xs.toList.reverse := by
  have h1 : ((List.range xs.size).filterMap fun (m : Nat) => xs[(((xs.size : Int) - 1) + (m : Int) * (-1)).toNat]?) = ((List.range xs.size).map fun k => xs.size - 1 - k).filterMap (xs[·]?) := by
    rw [List.filterMap_map]
    congr 1
    funext m
    show xs[(((xs.size : Int) - 1) + (m : Int) * (-1)).toNat]? = xs[xs.size - 1 - m]?
    by_cases h : xs.size = 0
    · have e : ∀ j : Nat, xs[j]? = none := fun j => Array.getElem?_eq_none (by omega)
      rw [e, e]
    · congr 1
      omega
  rw [h1, PySem.W.krv_range, List.filterMap_reverse, PySem.W.krv_all]
theorem getItem_back {t sl : Addr} {items : Array Value} {u : Tok} {Q : Value → Shared → Prop} (ht : IsTup s.heap t items) (hs : s.heap.IsSliceOf sl .none .none (.int (-1) u))
    (h : Q (.ref s.heap.objs.size) { s with heap := s.heap.push { cls := .type "tuple", data := .seq items.toList.reverse.toArray } }) (hz : items.size ≤ sizeLine) : wpAny (model prog w) A (getItem (.ref t) (.ref sl)) Q E s := by
  have ok : sizeOk (.seq items.toList.reverse.toArray) := by
    show items.toList.reverse.toArray.size ≤ sizeLine
    rw [List.size_toArray, List.length_reverse, Array.length_toList]
    exact hz
  obtain ⟨ob, hob, hcb, hdb⟩ := id hs
  have hT : s.TypeIs (.ref sl) "slice" := ⟨ob, hob, hcb⟩
  unfold getItem
  try (with_reducible refine wpAny_holding ?_)
  try refine wpAny_bind (wpAny_pure ?_)
  refine wpAny_bind (wpAny_sequenceKey ht.typeIs (by decide) (wpAny_bind ?_))
  refine (wpAny_callSpecial?_slot (name := Str.ofString "__getitem__") ht.typeIs PyProof.Rows.slot_tuple_getitem (wpAny_call_entry PyProof.Rows.slot_tuple_getitem ht.typeIs entry_tuple_getitem ?_ (args_tuple_getitem _ _)))
  show wpAny _ _ (Builtin.Tuple.tupleItemsOf (.ref t) >>= _) _ _ _
  refine wpAny_bind (tupleItemsOf_ ht (wpAny_bind (wpAny_typeOf hT ?_)))
  rw [if_pos (by decide)]
  refine wpAny_bind (applied_back hs ?_)
  show wpAny _ _ (if (((items.size : Int) - 1) == 0 && (-1 : Int) == 1 && items.size == items.size) = true then _ else _) _ _ s
  rw [if_neg (by simp), pick_back]
  first
    | exact wpAny_bind (m := Builtin.Tuple.tupleExact _) (wpAny_newObj_type (wpAny_pure ⟨_, rfl, wpAny_pure h⟩) ok)
    | exact wpAny_bind (m := Builtin.Tuple.tupleExact _) (wpAny_newObj_type (wpAny_bind (wpAny_pure (wpAny_pure ⟨_, rfl, wpAny_pure h⟩))) ok)
    | exact wpAny_bind (wpAny_bind (m := Builtin.Tuple.tupleExact _) (wpAny_newObj_type (wpAny_pure (wpAny_pure ⟨_, rfl, wpAny_pure h⟩)) ok))
    | exact wpAny_bind (wpAny_bind (m := Builtin.Tuple.tupleExact _) (wpAny_newObj_type (wpAny_pure ⟨_, rfl, wpAny_pure h⟩) ok))
end
section
variable {X : Cx} {pos : Pos}
def tRevA (K : PySem.W.Frag) (te : TE) : TE := fun σ H Q => te σ H fun x H1 => ∃ a xs, x = .ref a ∧ SqT K H1 a xs ∧ ∀ p, H1 p = none → Q (.ref p) (upd H1 p (.tup xs.reverse))
theorem pe_revA {e : Expr} {te : TE} {k : Nat} {p1 p2 p3 : Pos} (he : PE X e te) : PE X (.Subscript e (.Slice none none (some (.UnaryOp .USub (.Constant (.int 1) k p1) p2)) p3) pos) (tRevA X.K te) := by
  refine ⟨fun pins s σ H Q I h => Subscript_ (thn (he.run pins s σ H _ I h) fun v s1 ⟨x, H1, I1, r1, q1⟩ => ?_)⟩
  obtain ⟨a, xs, ex, hx, q⟩ := q1
  subst ex
  cases r1
  have st : PO X (some (.UnaryOp .USub (.Constant (.int 1) k p1) p2)) (tPart (tUn (rU fun i => .int (-i)) (tC (.int 1)))) := po_some (pe_un un_neg pe_int)
  refine wpAny_Slice (thn (po_none.run pins s1 σ H1 (fun o G => o = none ∧ G = H1) I1 ⟨rfl, rfl⟩) fun vl s2 ⟨l, G2, I2, pl, el, g2⟩ => ?_)
  subst el g2
  refine thn (po_none.run pins s2 σ G2 (fun o G => o = none ∧ G = G2) I2 ⟨rfl, rfl⟩) fun vu s3 ⟨l3, G3, I3, pu, eu, g3⟩ => ?_
  subst eu g3
  refine thn (st.run pins s3 σ G3 (fun o G => o = some (-1) ∧ G = G3) I3 ⟨1, rfl, -1, rfl, rfl, rfl⟩) fun vs s4 ⟨o, G4, I4, ps, eo, g4⟩ => ?_
  subst eo g4
  cases pl
  cases pu
  cases ps with
  | int i u =>
    have I5 : Inv X pins σ G4 { s4 with heap := s4.heap.push { cls := .type "slice", data := .fields #[.none, .none, .int (-1) u] } } := I4.kept (t' := s4.toks) fun b ob z => Heap.get?_push_of_some _ z
    obtain ⟨its, r, ht, hz⟩ := I5.tuple hx
    have hlen := r.length
    show wpAny (model X.prog X.w) X.A (subscriptTail e (.Slice none none (some (.UnaryOp .USub (.Constant (.int 1) k p1) p2)) p3) (.ref a) (.ref s4.heap.objs.size)) (L2.EP X pins σ Q) X.xe { s4 with heap := s4.heap.push { cls := .type "slice", data := .fields #[.none, .none, .int (-1) u] } }
    refine tail_any (ops := [.ref a, .ref s4.heap.objs.size]) ht.typeIs PyProof.Rows.slot_tuple_getitem.lookup ?_ (by with_unfolding_all rfl)
    refine getItem_back ht (Heap.IsSliceOf.new _ .none .none (.int (-1) u)) ?_ (by rw [List.size_toArray]; omega)
    refine ⟨.ref _, _, I5.laid (t' := s4.toks) (o := .tup xs.reverse) (fun b ob z => Heap.get?_push_of_some _ z) (Nat.le_refl _) ?_, rfl, q _ (I5.hok.fresh (Nat.le_refl _))⟩
    exact ⟨by rw [List.length_reverse]; exact hz, _, r.reverse, ⟨_, Heap.get?_push_size _ rfl, rfl, _, rfl⟩⟩
end
def revB (a : T) : Option R := match a with
  | .tup ds => some ⟨.tup ds.reverse, false⟩
  | a => revG a
theorem e_revB {X : Cx} {e : Expr} {te : TE} {pos : Pos} {fa : M (Sls → Option T)} {k : Nat} {p1 p2 p3 : Pos} (ha : EO X e te fa) :
    EE X (.Subscript e (.Slice none none (some (.UnaryOp .USub (.Constant (.int 1) k p1) p2)) p3) pos) (fun σ H Q => tRevL X.K te σ H Q ∨ tRevA X.K te σ H Q) (unE revB fa) := by
  refine ⟨⟨fun pins s σ H Q I h => h.elim ((pe_revL ha.pe).run pins s σ H Q I) ((pe_revA ha.pe).run pins s σ H Q I)⟩, ?_⟩
  intro τ τ' res σ H F Q e k c
  unfold unE at e
  obtain ⟨p, h1, e⟩ := Option.bind_eq_some_iff.mp e
  obtain ⟨x, h3, e⟩ := Option.bind_eq_some_iff.mp e
  obtain ⟨z, h5, e⟩ := Option.map_eq_some_iff.mp e
  cases e
  unfold revB at h5
  split at h5
  · rename_i ds
    cases h5
    refine .inr (ha.s τ p.2 p.1 σ H F _ h1 k fun v H1 F1 k1 s1 l1 => ?_)
    obtain ⟨aa, vs, rfl, hs, ra⟩ := (l1 _ _ _ _ k1 .refl h3).tup k1.sub
    refine ⟨aa, vs, rfl, SqT.of hs, fun q hq => ?_⟩
    exact new_tup k1.sub hq ra.reverse fun v H' F' g ro => c v H' F' (k1.grow g) (s1.trans g.step) ((ro.ok k1 g).back s1)
  · unfold revG at h5
    obtain ⟨ds, h6, h5⟩ := Option.map_eq_some_iff.mp h5
    subst h5
    refine .inl (ha.s τ p.2 p.1 σ H F _ h1 k fun v H1 F1 k1 s1 l1 => ?_)
    obtain ⟨aa, vs, rfl, hs, ra⟩ := (l1 _ _ _ _ k1 .refl h3).seqL k1.sub h6
    refine ⟨aa, vs, rfl, hs, fun q hq => ?_⟩
    exact new_lst k1.sub hq ra.reverse fun v H' F' g ro => c v H' F' (k1.grow g) (s1.trans g.step) ((ro.ok k1 g).back s1)
end TR

namespace TR
open PySem L2

/-! ### slots whose kind is not known -/
structure Hd (s : Sl) (d : T) : Prop where
  v : valS s = some d
  sl : slT (some s) = some d
  ln : s.isLn = false
theorem Hd.fr {d : T} : Hd (.fr d) d := ⟨rfl, rfl, rfl⟩
theorem Hd.ow {d : T} : Hd (.ow d) d := ⟨rfl, rfl, rfl⟩

/-! ### loops -/
theorem lcL_mapE {α : Type} {g : T → Sls → Option Sls} {cnd : M Bool} {elt : M T} {own : List Nat} {τ : Sls} (e f : α → T) : ∀ xs : List α, (∀ x ∈ xs, lcOne g cnd elt own (e x) τ = some (some (f x), τ)) → lcL g cnd elt own (xs.map e) τ = some (xs.map f, τ)
  | [], _ => rfl
  | x :: r, h => by
    rw [List.map_cons, lcL_one (h x (by simp)), lcL_mapE e f r fun y hy => h y (by simp [hy])]
    rfl
theorem lcL_filE {α : Type} {g : T → Sls → Option Sls} {cnd : M Bool} {elt : M T} {own : List Nat} {τ : Sls} (e f : α → T) (p : α → Bool) : ∀ xs : List α, (∀ x ∈ xs, lcOne g cnd elt own (e x) τ = some (if p x = true then some (f x) else none, τ)) → lcL g cnd elt own (xs.map e) τ = some ((xs.filter p).map f, τ)
  | [], _ => rfl
  | x :: r, h => by
    rw [List.map_cons, lcL_one (h x (by simp)), lcL_filE e f p r fun y hy => h y (by simp [hy])]
    cases hp : p x <;> simp [hp]
theorem lcL_relE {α : Type} {g : T → Sls → Option Sls} {cnd : M Bool} {elt : M T} {own : List Nat} (R : Sls → Prop) (e f : α → T) : ∀ xs : List α, (∀ x ∈ xs, ∀ τ, R τ → ∃ τ', lcOne g cnd elt own (e x) τ = some (some (f x), τ') ∧ R τ') → ∀ τ, R τ → ∃ τ', lcL g cnd elt own (xs.map e) τ = some (xs.map f, τ') ∧ R τ'
  | [], _, τ, hR => ⟨τ, rfl, hR⟩
  | x :: r, h, τ, hR => by
    obtain ⟨τ1, h1, h2⟩ := h x (by simp) τ hR
    obtain ⟨τ2, h3, h4⟩ := lcL_relE R e f r (fun y hy => h y (by simp [hy])) τ1 h2
    exact ⟨τ2, by rw [List.map_cons, lcL_one h1, h3]; rfl, h4⟩
theorem lcL_filR {α : Type} {g : T → Sls → Option Sls} {cnd : M Bool} {elt : M T} {own : List Nat} (R : Sls → Prop) (e f : α → T) (p : α → Bool) : ∀ xs : List α, (∀ x ∈ xs, ∀ τ, R τ → ∃ τ', lcOne g cnd elt own (e x) τ = some (if p x = true then some (f x) else none, τ') ∧ R τ') → ∀ τ, R τ → ∃ τ', lcL g cnd elt own (xs.map e) τ = some ((xs.filter p).map f, τ') ∧ R τ'
  | [], _, τ, hR => ⟨τ, rfl, hR⟩
  | x :: r, h, τ, hR => by
    obtain ⟨τ1, h1, h2⟩ := h x (by simp) τ hR
    obtain ⟨τ2, h3, h4⟩ := lcL_filR R e f p r (fun y hy => h y (by simp [hy])) τ1 h2
    refine ⟨τ2, ?_, h4⟩
    rw [List.map_cons, lcL_one h1, h3]
    cases hp : p x <;> simp [hp]
/-- .. each item with some property -/
theorem lcL_exE {α β : Type} {g : T → Sls → Option Sls} {cnd : M Bool} {elt : M T} {own : List Nat} (R : Sls → Prop) (e : α → T) (f : β → T) (P : α → β → Prop) : ∀ xs : List α, (∀ x ∈ xs, ∀ τ, R τ → ∃ y τ', lcOne g cnd elt own (e x) τ = some (some (f y), τ') ∧ R τ' ∧ P x y) → ∀ τ, R τ →
    ∃ (ys : List β) (τ' : Sls), lcL g cnd elt own (xs.map e) τ = some (ys.map f, τ') ∧ R τ' ∧ ys.length = xs.length ∧ ∀ (i : Nat) (x : α) (y : β), xs[i]? = some x → ys[i]? = some y → P x y
  | [], _, τ, hR => ⟨[], τ, rfl, hR, rfl, fun i x y h => by simp at h⟩
  | x :: r, h, τ, hR => by
    obtain ⟨y, τ1, h1, h2, h3⟩ := h x (by simp) τ hR
    obtain ⟨ys, τ2, h4, h5, h6, h7⟩ := lcL_exE R e f P r (fun y hy => h y (by simp [hy])) τ1 h2
    refine ⟨y :: ys, τ2, by rw [List.map_cons, lcL_one h1, h4]; rfl, h5, by simp [h6], fun i x' y' e1 e2 => ?_⟩
    cases i with
    | zero => simp at e1 e2; subst e1 e2; exact h3
    | succ i => exact h7 i x' y' (by simpa using e1) (by simpa using e2)
theorem loopS_inv {g : T → Sls → Option Sls} {body : Sls → Option Out} (Inv : Nat → Sls → Prop) : ∀ (ds : List T) (k : Nat), (∀ i d τ, ds[i]? = some d → Inv (k + i) τ → ∃ τ', (g d τ).bind body = some (.nx τ') ∧ Inv (k + i + 1) τ') →
    ∀ τ, Inv k τ → ∃ τ', loopS g body ds τ = some (.nx τ') ∧ Inv (k + ds.length) τ'
  | [], k, _, τ, hR => ⟨τ, rfl, hR⟩
  | d :: r, k, h, τ, hR => by
    obtain ⟨τ1, h1, h2⟩ := h 0 d τ rfl hR
    obtain ⟨τ2, h3, h4⟩ := loopS_inv Inv r (k + 1) (fun i d' τ hd hI => by
      have := h (i + 1) d' τ (by simpa using hd) (by rw [show k + (i + 1) = k + 1 + i by omega]; exact hI)
      rw [show k + (i + 1) + 1 = k + 1 + i + 1 by omega] at this
      exact this) τ1 h2
    obtain ⟨τ0, g1, g2⟩ := Option.bind_eq_some_iff.mp h1
    refine ⟨τ2, ?_, ?_⟩
    · rw [loopS, g1, Option.bind_some, g2]
      exact h3
    · rw [show k + (d :: r).length = k + 1 + r.length by simp; omega]
      exact h4
/-- a loop that ends at the first item of a kind -/
theorem loopS_find {α : Type} {g : T → Sls → Option Sls} {body : Sls → Option Out} (Q Q' : Sls → Prop) (e : α → T) (bad : α → Bool) (r : R) : ∀ (xs : List α),
    (∀ x ∈ xs, ∀ τ, Q τ → (bad x = false → ∃ τ', (g (e x) τ).bind body = some (.nx τ') ∧ Q τ') ∧ (bad x = true → ∃ τ', (g (e x) τ).bind body = some (.rt r τ') ∧ Q' τ')) →
    ∀ τ, Q τ → (xs.any bad = false → ∃ τ', loopS g body (xs.map e) τ = some (.nx τ') ∧ Q τ') ∧ (xs.any bad = true → ∃ τ', loopS g body (xs.map e) τ = some (.rt r τ') ∧ Q' τ')
  | [], _, τ, hR => ⟨fun _ => ⟨τ, rfl, hR⟩, fun h => by simp at h⟩
  | x :: xs, h, τ, hR => by
    obtain ⟨h1, h2⟩ := h x (by simp) τ hR
    cases hb : bad x with
    | true =>
      refine ⟨fun z => by simp [hb] at z, fun _ => ?_⟩
      obtain ⟨τ1, q1, q2⟩ := h2 hb
      obtain ⟨τ0, g1, g2⟩ := Option.bind_eq_some_iff.mp q1
      exact ⟨τ1, by rw [List.map_cons, loopS, g1, Option.bind_some, g2]; rfl, q2⟩
    | false =>
      obtain ⟨τ1, q1, q2⟩ := h1 hb
      obtain ⟨τ0, g1, g2⟩ := Option.bind_eq_some_iff.mp q1
      obtain ⟨i1, i2⟩ := loopS_find Q Q' e bad r xs (fun y hy => h y (by simp [hy])) τ1 q2
      refine ⟨fun z => ?_, fun z => ?_⟩
      · obtain ⟨τ2, j1, j2⟩ := i1 (by simpa [hb] using z)
        exact ⟨τ2, by rw [List.map_cons, loopS, g1, Option.bind_some, g2]; exact j1, j2⟩
      · obtain ⟨τ2, j1, j2⟩ := i2 (by simpa [hb] using z)
        exact ⟨τ2, by rw [List.map_cons, loopS, g1, Option.bind_some, g2]; exact j1, j2⟩

/-! ### what is walked, as maps -/
theorem rngT_map : ∀ (n : Nat) (lo : Int), rngT lo n = (List.range n).map fun i => T.int (lo + (i : Nat))
  | 0, _ => rfl
  | n + 1, lo => by
    rw [rngT, rngT_map n, List.range_succ_eq_map, List.map_cons, List.map_map]
    congr 1
    · simp
    · refine List.map_congr_left fun i _ => ?_
      simp only [Function.comp]
      congr 1
      omega
theorem rngT0 (n : Nat) : rngT 0 n = (List.range n).map fun i => T.int (i : Nat) := by
  rw [rngT_map]
  refine List.map_congr_left fun i _ => ?_
  rw [Int.zero_add]
theorem rngT1 (n : Nat) : rngT 1 n = (List.range n).map fun i => T.int ((i + 1 : Nat) : Int) := by
  rw [rngT_map]
  refine List.map_congr_left fun i _ => ?_
  congr 1
  omega
theorem enuT_map {α : Type} (e : α → T) : ∀ (xs : List α) (k : Nat), enuT k (xs.map e) = (xs.zipIdx k).map fun p => T.tup [.int (p.2 : Nat), e p.1]
  | [], _ => rfl
  | x :: r, k => by
    rw [List.map_cons, enuT, enuT_map e r (k + 1), List.zipIdx_cons, List.map_cons]
theorem rgOk_n (n : Nat) (h : n < 1000000000) : rgOk (n : Int) = true := Nat.ble_eq_true_of_le (by omega)
theorem rgOk_i (n : Int) (h0 : -1000000000 < n) (h : n < 1000000000) : rgOk n = true := Nat.ble_eq_true_of_le (by omega)

/-! ### items -/
theorem atI_nat {α : Type} {xs : List α} {i : Nat} (h : i < xs.length) : atI xs (i : Int) = some xs[i] := by
  unfold atI ixN
  rw [if_pos (by omega), if_pos (by omega), Option.bind_some, Int.toNat_natCast, List.getElem?_eq_getElem h]
theorem atI_int {α : Type} {xs : List α} {i : Int} {k : Nat} (e : i = (k : Int)) (h : k < xs.length) : atI xs i = some xs[k] := by
  subst e
  exact atI_nat h
theorem atI_last {α : Type} {xs : List α} (h : 0 < xs.length) : atI xs (-1) = some xs[xs.length - 1] := by
  unfold atI ixN
  rw [if_neg (by omega), if_pos (by omega), Option.bind_some, ← List.getElem?_eq_getElem]
  congr 1
  omega
theorem ixN_nat {n i : Nat} (h : i < n) : ixN n (i : Int) = some i := by
  unfold ixN
  rw [if_pos (by omega), if_pos (by omega), Int.toNat_natCast]

/-! ### whole numbers and truth values in rows -/
theorem intsOf_mapf {α : Type} (f : α → Int) : ∀ xs : List α, intsOf (xs.map fun x => T.int (f x)) = some (xs.map f)
  | [] => rfl
  | x :: r => by
    show (intsOf (r.map fun x => T.int (f x))).map (f x :: ·) = _
    rw [intsOf_mapf f r]
    rfl
theorem intsOf_map : ∀ ns : List Int, intsOf (ns.map T.int) = some ns
  | [] => rfl
  | n :: r => by
    show (intsOf (r.map T.int)).map (n :: ·) = _
    rw [intsOf_map r]
    rfl
theorem blsOf_mapf {α : Type} (f : α → Bool) : ∀ xs : List α, blsOf (xs.map fun x => T.bl (f x)) = some (xs.map f)
  | [] => rfl
  | x :: r => by
    show (blsOf (r.map fun x => T.bl (f x))).map (f x :: ·) = _
    rw [blsOf_mapf f r]
    rfl
theorem all_lst {α : Type} (f : α → Bool) (xs : List α) : allG [.lst (xs.map fun x => T.bl (f x))] = some ⟨.bl (xs.all f), false⟩ := by
  show ((T.seqL (.lst (xs.map fun x => T.bl (f x)))).bind blsOf).map _ = _
  rw [show T.seqL (.lst (xs.map fun x => T.bl (f x))) = some (xs.map fun x => T.bl (f x)) from rfl, Option.bind_some, blsOf_mapf, Option.map_some, List.all_map]
  rfl
theorem any_lst {α : Type} (f : α → Bool) (xs : List α) : anyG [.lst (xs.map fun x => T.bl (f x))] = some ⟨.bl (xs.any f), false⟩ := by
  show ((T.seqL (.lst (xs.map fun x => T.bl (f x)))).bind blsOf).map _ = _
  rw [show T.seqL (.lst (xs.map fun x => T.bl (f x))) = some (xs.map fun x => T.bl (f x)) from rfl, Option.bind_some, blsOf_mapf, Option.map_some, List.any_map]
  rfl
theorem sum_lst {α : Type} (f : α → Int) (xs : List α) : sumG [.lst (xs.map fun x => T.int (f x))] = some ⟨.int (xs.map f).sum, false⟩ := by
  show ((T.seqL (.lst (xs.map fun x => T.int (f x)))).bind intsOf).map _ = _
  rw [show T.seqL (.lst (xs.map fun x => T.int (f x))) = some (xs.map fun x => T.int (f x)) from rfl, Option.bind_some, intsOf_mapf, Option.map_some]
theorem sumA_lst {α : Type} (f : α → Int) (xs : List α) : sumA [.lst (xs.map fun x => T.int (f x))] = some ⟨.int (xs.map f).sum, false⟩ := sum_lst f xs
theorem sumA_tup (ns : List Int) : sumA [.tup (ns.map T.int)] = some ⟨.int ns.sum, false⟩ := by
  show (intsOf (ns.map T.int)).map _ = _
  rw [intsOf_map]
  rfl
def mxL : List Int → Int
  | [] => 0
  | n :: r => maxI n r
def mnL : List Int → Int
  | [] => 0
  | n :: r => minI n r
theorem mxL_mem {l : List Int} (h : l ≠ []) : mxL l ∈ l := by
  cases l with
  | nil => exact absurd rfl h
  | cons n r =>
    obtain ⟨h1, _, _⟩ := maxI_spec r n
    rcases h1 with h1 | h1
    · show maxI n r ∈ n :: r
      rw [h1]
      simp
    · show maxI n r ∈ n :: r
      simp [h1]
theorem mxL_ge {l : List Int} {x : Int} (h : x ∈ l) : x ≤ mxL l := by
  cases l with
  | nil => cases h
  | cons n r =>
    obtain ⟨_, h2, h3⟩ := maxI_spec r n
    rcases List.mem_cons.mp h with rfl | h
    · exact h2
    · exact h3 x h
theorem max_lst {α : Type} (f : α → Int) (xs : List α) (h : xs ≠ []) : maxG [.lst (xs.map fun x => T.int (f x))] = some ⟨.int (mxL (xs.map f)), false⟩ := by
  show ((T.seqL (.lst (xs.map fun x => T.int (f x)))).bind intsOf).bind _ = _
  rw [show T.seqL (.lst (xs.map fun x => T.int (f x))) = some (xs.map fun x => T.int (f x)) from rfl, Option.bind_some, intsOf_mapf, Option.bind_some]
  cases xs with
  | nil => exact absurd rfl h
  | cons x r => rfl
theorem min_lst {α : Type} (f : α → Int) (xs : List α) (h : xs ≠ []) : minG [.lst (xs.map fun x => T.int (f x))] = some ⟨.int (mnL (xs.map f)), false⟩ := by
  show ((T.seqL (.lst (xs.map fun x => T.int (f x)))).bind intsOf).bind _ = _
  rw [show T.seqL (.lst (xs.map fun x => T.int (f x))) = some (xs.map fun x => T.int (f x)) from rfl, Option.bind_some, intsOf_mapf, Option.bind_some]
  cases xs with
  | nil => exact absurd rfl h
  | cons x r => rfl
theorem maxA_lst {α : Type} (f : α → Int) (xs : List α) (h : xs ≠ []) : maxA [.lst (xs.map fun x => T.int (f x))] = some ⟨.int (mxL (xs.map f)), false⟩ := max_lst f xs h
theorem minA_lst {α : Type} (f : α → Int) (xs : List α) (h : xs ≠ []) : minA [.lst (xs.map fun x => T.int (f x))] = some ⟨.int (mnL (xs.map f)), false⟩ := min_lst f xs h
theorem foldl_max (r : List Int) : ∀ n : Int, r.foldl max n = maxI n r := by
  induction r with
  | nil => intro n; rfl
  | cons x r ih =>
    intro n
    rw [List.foldl_cons, ih, maxI]
    congr 1
    by_cases h : n < x
    · rw [if_pos h]; exact Int.max_eq_right (Int.le_of_lt h)
    · rw [if_neg h]; exact Int.max_eq_left (by omega)
theorem foldl_min (r : List Int) : ∀ n : Int, r.foldl min n = minI n r := by
  induction r with
  | nil => intro n; rfl
  | cons x r ih =>
    intro n
    rw [List.foldl_cons, ih, minI]
    congr 1
    by_cases h : x < n
    · rw [if_pos h]; exact Int.min_eq_right (Int.le_of_lt h)
    · rw [if_neg h]; exact Int.min_eq_left (by omega)
theorem maxA_tup (ns : List Int) (h : ns ≠ []) : maxA [.tup (ns.map T.int)] = some ⟨.int (mxL ns), false⟩ := by
  show (intsOf (ns.map T.int)).bind _ = _
  rw [intsOf_map, Option.bind_some]
  cases ns with
  | nil => exact absurd rfl h
  | cons n r => show some (ri (r.foldl max n)) = _; rw [foldl_max]; rfl
theorem minA_tup (ns : List Int) (h : ns ≠ []) : minA [.tup (ns.map T.int)] = some ⟨.int (mnL ns), false⟩ := by
  show (intsOf (ns.map T.int)).bind _ = _
  rw [intsOf_map, Option.bind_some]
  cases ns with
  | nil => exact absurd rfl h
  | cons n r => show some (ri (r.foldl min n)) = _; rw [foldl_min]; rfl
theorem mnL_mem {l : List Int} (h : l ≠ []) : mnL l ∈ l := by
  cases l with
  | nil => exact absurd rfl h
  | cons n r =>
    obtain ⟨h1, _, _⟩ := minI_spec r n
    rcases h1 with h1 | h1
    · show minI n r ∈ n :: r
      rw [h1]
      simp
    · show minI n r ∈ n :: r
      simp [h1]
theorem mnL_le {l : List Int} {x : Int} (h : x ∈ l) : mnL l ≤ x := by
  cases l with
  | nil => cases h
  | cons n r =>
    obtain ⟨_, h2, h3⟩ := minI_spec r n
    rcases List.mem_cons.mp h with rfl | h
    · exact h2
    · exact h3 x h
@[simp] theorem ev_abs {i : Int} : absG [.int i] = some ⟨.int (if i < 0 then -i else i), false⟩ := id rfl
@[simp] theorem ev_max2 {i j : Int} : max2G [.int i, .int j] = some ⟨.int (if i < j then j else i), false⟩ := id rfl
@[simp] theorem ev_min2 {i j : Int} : min2G [.int i, .int j] = some ⟨.int (if j < i then j else i), false⟩ := id rfl
@[simp] theorem ev_isG1 {b : Bool} : isG (.bl b) (.bl true) = some ⟨.bl b, false⟩ := by cases b <;> rfl
@[simp] theorem ev_isG2 {b : Bool} : isnG (.bl b) (.bl true) = some ⟨.bl (!b), false⟩ := by cases b <;> rfl
@[simp] theorem ev_catT {ds es : List T} : addG (.tup ds) (.tup es) = if ds.length + es.length ≤ sizeLine then some ⟨.tup (ds ++ es), false⟩ else none := id rfl

/-! ### typed data -/
structure En {α : Type} [DecidableEq α] (e : α → T) (k : Nat) : Prop where
  eqv : ∀ a b, (e a).eqv (e b) = decide (a = b)
  lay : ∀ a, (e a).lay = true
  dep : ∀ a, (e a).dep ≤ k
section
variable {α β : Type} [DecidableEq α] [DecidableEq β] {e : α → T} {f : β → T} {k l : Nat}
theorem en_int : En T.int 0 := ⟨fun a b => by
  show (a == b) = decide (a = b)
  by_cases h : a = b <;> simp [h], fun _ => rfl, fun _ => Nat.le_refl _⟩
theorem en_nat : En (fun n : Nat => T.int n) 0 := ⟨fun a b => by
  show ((a : Int) == (b : Int)) = decide (a = b)
  by_cases h : a = b
  · simp [h]
  · have : ¬ (a : Int) = b := by omega
    simp [h, this], fun _ => rfl, fun _ => Nat.le_refl _⟩
theorem en_bl : En T.bl 0 := ⟨fun a b => by cases a <;> cases b <;> rfl, fun _ => rfl, fun _ => Nat.le_refl _⟩
theorem En.eqvA (h : En e k) : ∀ xs ys : List α, TR.eqvA (xs.map e) (ys.map e) = decide (xs = ys)
  | [], [] => rfl
  | [], _ :: _ => rfl
  | _ :: _, [] => rfl
  | x :: xs, y :: ys => by
    show ((e x).eqv (e y) && TR.eqvA (xs.map e) (ys.map e)) = _
    rw [h.eqv, h.eqvA xs ys, ← Bool.decide_and]
    exact decide_eq_decide.mpr (by rw [List.cons.injEq])
theorem En.layA (h : En e k) : ∀ xs : List α, TR.layA (xs.map e) = true
  | [] => rfl
  | x :: xs => by
    show ((e x).lay && TR.layA (xs.map e)) = true
    rw [h.lay, h.layA xs]
    rfl
theorem En.depA (h : En e k) : ∀ xs : List α, TR.depA (xs.map e) ≤ k
  | [] => Nat.zero_le _
  | x :: xs => by
    show max (e x).dep (TR.depA (xs.map e)) ≤ k
    exact Nat.max_le.mpr ⟨h.dep x, h.depA xs⟩
theorem En.lst (h : En e k) : En (fun xs : List α => T.lst (xs.map e)) (k + 1) := ⟨fun a b => h.eqvA a b, fun a => h.layA a, fun a => Nat.succ_le_succ (h.depA a)⟩
theorem En.tup (h : En e k) : En (fun xs : List α => T.tup (xs.map e)) (k + 1) := ⟨fun a b => h.eqvA a b, fun a => h.layA a, fun a => Nat.succ_le_succ (h.depA a)⟩
theorem En.pair (h : En e k) (h' : En f l) : En (fun p : α × β => T.tup [e p.1, f p.2]) (max k l + 1) := ⟨fun a b => by
  show ((e a.1).eqv (e b.1) && ((f a.2).eqv (f b.2) && true)) = _
  rw [h.eqv, h'.eqv, Bool.and_true, ← Bool.decide_and]
  exact decide_eq_decide.mpr ⟨fun z => Prod.ext z.1 z.2, fun z => by rw [z]; exact ⟨rfl, rfl⟩⟩, fun a => by
  show ((e a.1).lay && ((f a.2).lay && true)) = true
  rw [h.lay, h'.lay]
  rfl, fun a => by
  show max (e a.1).dep (max (f a.2).dep 0) + 1 ≤ _
  have h1 := h.dep a.1
  have h2 := h'.dep a.2
  omega⟩
theorem En.shp (h : En e k) (hk : k ≤ 64) (a : α) : (e a).shp = true := by
  unfold T.shp
  rw [h.lay a, decide_eq_true (Nat.le_trans (h.dep a) hk)]
  rfl
theorem En.eqG (h : En e k) (hk : k ≤ 64) (a b : α) : TR.eqG (e a) (e b) = some ⟨.bl (decide (a = b)), false⟩ := by
  unfold TR.eqG
  rw [h.shp hk, h.shp hk, h.eqv]
  rfl
theorem En.neG (h : En e k) (hk : k ≤ 64) (a b : α) : TR.neG (e a) (e b) = some ⟨.bl (!decide (a = b)), false⟩ := by
  unfold TR.neG
  rw [h.shp hk, h.shp hk, h.eqv]
  rfl
theorem En.any (h : En e k) (a : α) : ∀ xs : List α, ((xs.map e).any fun z => z.eqv (e a)) = decide (a ∈ xs)
  | [] => by simp
  | x :: xs => by
    rw [List.map_cons, List.any_cons, h.any a xs, h.eqv]
    by_cases q : x = a
    · subst q; simp
    · have q' : ¬ a = x := fun z => q z.symm
      simp [q, q']
theorem En.inL (h : En e k) (hk : k + 1 ≤ 64) (a : α) (xs : List α) : TR.inG (e a) (.lst (xs.map e)) = some ⟨.bl (decide (a ∈ xs)), false⟩ := by
  unfold TR.inG inT
  dsimp only
  rw [h.shp (by omega), show (T.lst (xs.map e)).shp = true from h.lst.shp hk xs, h.any]
  rfl
theorem En.ninL (h : En e k) (hk : k + 1 ≤ 64) (a : α) (xs : List α) : TR.ninG (e a) (.lst (xs.map e)) = some ⟨.bl (!decide (a ∈ xs)), false⟩ := by
  unfold TR.ninG inT
  dsimp only
  rw [h.shp (by omega), show (T.lst (xs.map e)).shp = true from h.lst.shp hk xs, h.any]
  rfl
theorem En.in_yes (h : En e k) (hk : k + 1 ≤ 64) {a : α} {xs : List α} (m : a ∈ xs) : TR.inG (e a) (.lst (xs.map e)) = some ⟨.bl true, false⟩ := by rw [h.inL hk, decide_eq_true m]
theorem En.in_no (h : En e k) (hk : k + 1 ≤ 64) {a : α} {xs : List α} (m : ¬ a ∈ xs) : TR.inG (e a) (.lst (xs.map e)) = some ⟨.bl false, false⟩ := by rw [h.inL hk, decide_eq_false m]
theorem En.nin_yes (h : En e k) (hk : k + 1 ≤ 64) {a : α} {xs : List α} (m : a ∈ xs) : TR.ninG (e a) (.lst (xs.map e)) = some ⟨.bl false, false⟩ := by rw [h.ninL hk, decide_eq_true m]; rfl
theorem En.nin_no (h : En e k) (hk : k + 1 ≤ 64) {a : α} {xs : List α} (m : ¬ a ∈ xs) : TR.ninG (e a) (.lst (xs.map e)) = some ⟨.bl true, false⟩ := by rw [h.ninL hk, decide_eq_false m]; rfl
end
structure EnO {α : Type} [DecidableEq α] (e : α → T) (k : Nat) (lt : α → α → Bool) : Prop extends En e k where
  alike : ∀ a b, PySem.W.alike (e a).toD (e b).toD = true
  lt_eq : ∀ a b, PySem.W.dataLt (e a).toD (e b).toD = lt a b
  nn : ∀ a, e a ≠ .non
def lexL {α : Type} [DecidableEq α] (lt : α → α → Bool) : List α → List α → Bool
  | [], [] => false
  | [], _ :: _ => true
  | _ :: _, [] => false
  | x :: xs, y :: ys => if x = y then lexL lt xs ys else lt x y
section
variable {α β : Type} [DecidableEq α] [DecidableEq β] {e : α → T} {f : β → T} {k l : Nat} {lt : α → α → Bool} {lt' : β → β → Bool}
theorem eno_int : EnO T.int 0 (fun a b => decide (a < b)) := ⟨en_int, fun a b => by show PySem.W.alike (.int a) (.int b) = true; simp only [PySem.W.alike], fun a b => PySem.W.dataLt_int a b, fun a => nofun⟩
theorem eno_nat : EnO (fun n : Nat => T.int n) 0 (fun a b => decide (a < b)) := ⟨en_nat, fun a b => by show PySem.W.alike (.int a) (.int b) = true; simp only [PySem.W.alike], fun a b => (PySem.W.dataLt_int a b).trans (decide_eq_decide.mpr (by omega)), fun a => nofun⟩
theorem EnO.alikeA (h : EnO e k lt) : ∀ xs ys : List α, PySem.W.alikeAll (toDA (xs.map e)) (toDA (ys.map e)) = true
  | [], _ => by rw [List.map_nil, toDA, PySem.W.alikeAll]
  | _ :: _, [] => by rw [List.map_nil, List.map_cons, toDA, toDA, PySem.W.alikeAll]
  | x :: xs, y :: ys => by
    rw [List.map_cons, List.map_cons, toDA, toDA, PySem.W.alikeAll, h.alike x y, h.alikeA xs ys]
    rfl
theorem EnO.lexA (h : EnO e k lt) : ∀ xs ys : List α, PyProof.Rows.lexLt PyProof.Rows.itemOrd (PySem.W.keyToksAll (toDA (xs.map e))) (PySem.W.keyToksAll (toDA (ys.map e))) = lexL lt xs ys
  | [], [] => PyProof.Rows.lex_irrefl _
  | [], y :: ys => by
    rw [List.map_nil, List.map_cons, toDA, toDA, PySem.W.toks_all_cons]
    simp only [PySem.W.keyToksAll]
    rw [PyProof.Rows.lex_diff (O := PyProof.Rows.itemOrd) (by simp)]
    rfl
  | x :: xs, [] => by
    rw [List.map_nil, List.map_cons, toDA, toDA, PySem.W.toks_all_cons]
    simp only [PySem.W.keyToksAll]
    rw [PyProof.Rows.lex_diff (O := PyProof.Rows.itemOrd) (by simp)]
    rfl
  | x :: xs, y :: ys => by
    rw [List.map_cons, List.map_cons, toDA, toDA, lexL]
    have ev : PyData.eqv (e x).toD (e y).toD = decide (x = y) := (eqv_toD _ _).trans (h.eqv x y)
    by_cases q : x = y
    · rw [if_pos q, PySem.W.dataLt_all_yes (h.alike x y) (by rw [ev, decide_eq_true_eq]; exact q), h.lexA xs ys]
    · rw [if_neg q, PySem.W.dataLt_all_no (h.alike x y) (by rw [ev, decide_eq_false_iff_not]; exact q)]
      exact h.lt_eq x y
theorem EnO.lst (h : EnO e k lt) : EnO (fun xs : List α => T.lst (xs.map e)) (k + 1) (lexL lt) := ⟨h.toEn.lst, fun a b => by show PySem.W.alike (.list _) (.list _) = true; simp only [PySem.W.alike]; exact h.alikeA a b, fun a b => (PySem.W.dataLt_list _ _).trans (h.lexA a b), fun a => nofun⟩
theorem EnO.tup (h : EnO e k lt) : EnO (fun xs : List α => T.tup (xs.map e)) (k + 1) (lexL lt) := ⟨h.toEn.tup, fun a b => by show PySem.W.alike (.tuple _) (.tuple _) = true; simp only [PySem.W.alike]; exact h.alikeA a b, fun a b => (PySem.W.dataLt_tuple _ _).trans (h.lexA a b), fun a => nofun⟩
theorem EnO.leT (h : EnO e k lt) (a b : α) : TR.leT (e a) (e b) = !lt b a := by
  show (!PySem.W.dataLt (e b).toD (e a).toD) = _
  rw [h.lt_eq]
theorem EnO.sortT (h : EnO e k lt) (xs : List α) : TR.sortT (xs.map e) = (isort (fun a b => !lt b a) xs).map e := by
  unfold TR.sortT
  rw [← isort_map e xs]
  congr 1
  congr 1
  funext a b
  exact h.leT a b
theorem EnO.sorted (h : EnO e k lt) (hk : k ≤ 60) (xs : List α) (hx : xs.length ≤ sizeLine) (hs : (∀ x ∈ xs, isTup1 (e x) = true) ∨ (∀ x ∈ xs, notTN (e x) = true)) : sortedG [.lst (xs.map e)] = some ⟨.lst ((isort (fun a b => !lt b a) xs).map e), true⟩ := by
  have ok : sortOk (xs.map e) = true := by
    unfold sortOk
    rw [h.layA xs, decide_eq_true (Nat.le_trans (h.depA xs) hk), List.length_map, decide_eq_true hx]
    simp only [Bool.true_and, Bool.and_eq_true, Bool.or_eq_true, List.all_eq_true]
    refine ⟨?_, fun a ha b hb => ?_⟩
    · rcases hs with hs | hs
      · exact .inl fun x hx => by obtain ⟨y, hy, rfl⟩ := List.mem_map.mp hx; exact hs y hy
      · exact .inr fun x hx => by obtain ⟨y, hy, rfl⟩ := List.mem_map.mp hx; exact hs y hy
    · obtain ⟨a, _, rfl⟩ := List.mem_map.mp ha
      obtain ⟨b, _, rfl⟩ := List.mem_map.mp hb
      exact h.alike a b
  show (if sortOk (xs.map e) = true then _ else _) = _
  rw [if_pos ok, h.sortT]
def minOn {α : Type} (lt : α → α → Bool) (x : α) (xs : List α) : α := xs.foldl (fun a y => if lt y a = true then y else a) x
theorem EnO.minT (h : EnO e k lt) : ∀ (xs : List α) (x : α), TR.minT (e x) (xs.map e) = e (minOn lt x xs)
  | [], _ => rfl
  | y :: ys, x => by
    show TR.minT (if PySem.W.dataLt (e y).toD (e x).toD = true then e y else e x) (ys.map e) = e (minOn lt (if lt y x = true then y else x) ys)
    rw [h.lt_eq, ← h.minT ys]
    split <;> rfl
theorem EnO.minB (h : EnO e k lt) (hk : k ≤ 60) (hi : ∀ a, isTI (e a) = true) (x : α) (xs : List α) : TR.minB [.lst (e x :: xs.map e)] = some ⟨e (minOn lt x xs), false⟩ := by
  have ok : minOk (e x :: xs.map e) = true := by
    rw [show e x :: xs.map e = (x :: xs).map e from rfl]
    unfold minOk
    simp only [Bool.and_eq_true, List.all_eq_true]
    refine ⟨fun a ha => ?_, h.layA _, Nat.ble_eq_true_of_le (Nat.le_trans (h.depA _) hk), fun a ha b hb => ?_⟩
    · obtain ⟨a, _, rfl⟩ := List.mem_map.mp ha
      exact hi a
    · obtain ⟨a, _, rfl⟩ := List.mem_map.mp ha
      obtain ⟨b, _, rfl⟩ := List.mem_map.mp hb
      exact h.alike a b
  show (if minOk (e x :: xs.map e) = true then _ else _) = _
  rw [if_pos ok, h.minT]
end
@[simp] theorem ev_eqB {a b : Bool} : eqG (.bl a) (.bl b) = some ⟨.bl (decide (a = b)), false⟩ := en_bl.eqG (by decide) a b
@[simp] theorem ev_neB {a b : Bool} : neG (.bl a) (.bl b) = some ⟨.bl (!decide (a = b)), false⟩ := en_bl.neG (by decide) a b
/-- tuples of whole numbers -/
abbrev eT (xs : List Int) : T := .tup (xs.map .int)
abbrev eLI (xs : List Int) : T := .lst (xs.map .int)
theorem en_eT : En eT 1 := en_int.tup
theorem eno_eT : EnO eT 1 (lexL fun a b => decide (a < b)) := eno_int.tup
theorem isTI_eT (xs : List Int) : isTI (eT xs) = true := by
  show (xs.map T.int).all isInt = true
  rw [List.all_map]
  exact List.all_eq_true.mpr fun _ _ => rfl
end TR

namespace TR
open PySem L2

/-! ### loops over a dict -/
section
variable {τ : Sls} {j : Nat}
@[simp] theorem ev_keyI : keyI j τ = match τ[j]? with
  | some (.fr (.dic ds)) => some (ds.map (·.1), τ)
  | _ => none := id rfl
@[simp] theorem ev_lcD {g : T → Sls → Option Sls} {cnd : M Bool} {elt : M T} {own : List Nat} : lcD j g cnd elt own τ = (vrd j τ).bind fun p => match p.1 with
  | .dic _ => lcE (keyI j) g cnd elt own p.2
  | _ => none := id rfl
@[simp] theorem ev_forD {g : T → Sls → Option Sls} {body : Sls → Option Out} : forD j g body τ = (vrd j τ).bind fun p => match p.1 with
  | .dic _ => forS (keyI j) g body p.2
  | _ => none := id rfl
@[simp] theorem ev_isnon : isG .non .non = some ⟨.bl true, false⟩ := id rfl
end

theorem sq_nx {f g : Sls → Option Out} {τ τ1 : Sls} {o : Option Out} (h : f τ = some (.nx τ1)) (h2 : g τ1 = o) : sqS f g τ = o := by
  unfold sqS
  rw [h]
  exact h2

/-- a while of so many turns -/
theorem whS_cnt {c : M Bool} {b : Sls → Option Out} (Inv : Nat → Sls → Prop) (n : Nat) (hc : ∀ k τ, k ≤ n → Inv k τ → ∃ τ', c τ = some (decide (k < n), τ') ∧ Inv k τ')
    (hb : ∀ k τ, k < n → Inv k τ → ∃ τ', b τ = some (.nx τ') ∧ Inv (k + 1) τ') : ∀ (fuel k : Nat) (τ : Sls), n - k < fuel → k ≤ n → Inv k τ → ∃ τ', whS c b fuel τ = some (.nx τ') ∧ Inv n τ'
  | 0, _, _, h, _, _ => absurd h (by omega)
  | fuel + 1, k, τ, h, hk, hI => by
    obtain ⟨τ1, h1, h2⟩ := hc k τ hk hI
    rw [whS, h1, Option.bind_some]
    by_cases q : k < n
    · rw [if_pos (decide_eq_true q)]
      obtain ⟨τ2, h3, h4⟩ := hb k τ1 q h2
      obtain ⟨τ3, h5, h6⟩ := whS_cnt Inv n hc hb fuel (k + 1) τ2 (by omega) (by omega) h4
      refine ⟨τ3, ?_, h6⟩
      show ((b τ1).bind fun o => _) = _
      rw [h3]
      exact h5
    · have e : k = n := by omega
      subst e
      rw [if_neg (by rw [decide_eq_false q]; exact Bool.false_ne_true)]
      exact ⟨τ1, rfl, h2⟩
@[simp] theorem ev_lrg1 {τ : Sls} {fa : M (Sls → Option T)} : lrgE1 fa τ = (fa τ).bind fun p => (p.1 p.2).bind fun x => match x with
  | .int j => (lrgOf 0 j).map fun r => (r, p.2)
  | _ => none := id rfl
@[simp] theorem ev_lrg2 {τ : Sls} {fa fb : M (Sls → Option T)} : lrgE2 fa fb τ = (fa τ).bind fun p => (fb p.2).bind fun q => (p.1 q.2).bind fun x => (q.1 q.2).bind fun y => match x with
  | .int i => match y with
    | .int j => (lrgOf i j).map fun r => (r, q.2)
    | _ => none
  | _ => none := id rfl
theorem lrgOf_nat (n : Nat) (h : n ≤ 100000) : lrgOf 0 (n : Int) = some ⟨.lst (rngT 0 n), true⟩ := by
  have e1 : rgOk 0 = true := by decide +kernel
  have e2 := rgOk_n n (by omega)
  have e3 : ((n : Int) - 0).toNat = n := by omega
  unfold lrgOf
  rw [e1, e2, e3, decide_eq_true (show n ≤ 2 ^ 24 from Nat.le_trans h (by decide))]
  rfl

/-! ### the law's own comparing -/
def b_law_same (fr : FnS) : Sls → Option Out :=
  (sqS (ifS (trB (ov (fz (isiE "dict" (prdOk 1))))) (sqS (ifS (orB (notB (trB (ov (fz (isiE "dict" (prdOk 0)))))) (bT (opE neG (ov (fz (calE lenG (consO (prdOk 0) nilO)))) (ov (fz (calE lenG (consO (prdOk 1) nilO))))))) (rtS (rv (cst (.bl false)))) skS)
    (rtS (calE allG (consO (ov (fz (lcD 1 (gN 2) yesB (fz (andE (fz (opE inG (prdOk 2) (prdOk 0))) (callE fr (consC (fz (opE ixG (prdOk 0) (prdOk 2))) (consC (fz (opE ixG (prdOk 1) (prdOk 2))) nilC))))) [2]))) nilO)))) skS)
    (sqS (ifS (orB (trB (ov (fz (isiE "list" (prdOk 1))))) (trB (ov (fz (isiE "tuple" (prdOk 1)))))) (sqS (ifS (orB (bT (opE neG (ov (fz (isiE "list" (prdOk 1)))) (ov (fz (isiE "list" (prdOk 0)))))) (bT (opE neG (ov (fz (isiE "tuple" (prdOk 1)))) (ov (fz (isiE "tuple" (prdOk 0))))))) (rtS (rv (cst (.bl false)))) skS)
    (rtS (andE (fz (opE eqG (ov (fz (calE lenG (consO (prdOk 0) nilO)))) (ov (fz (calE lenG (consO (prdOk 1) nilO)))))) (calE allG (consO (ov (fz (lcE (rng1 (consO (ov (fz (calE lenG (consO (prdOk 1) nilO)))) nilO)) (gN 3) yesB (fz (callE fr (consC (fz (opE ixG (prdOk 0) (prdOk 3))) (consC (fz (opE ixG (prdOk 1) (prdOk 3))) nilC)))) [3]))) nilO))))) skS)
    (sqS (ifS (trB (ov (fz (isiE "str" (prdOk 1))))) (rtS (andE (fz (isiE "str" (prdOk 0))) (opE eqG (prdOk 0) (prdOk 1)))) skS)
    (sqS (ifS (orB (bT (opE isG (prdOk 1) (ov (cst .non)))) (orB (bT (opE isG (prdOk 1) (ov (cst (.bl true))))) (bT (opE isG (prdOk 1) (ov (cst (.bl false))))))) (rtS (orE (fz (andE (fz (opE isG (prdOk 1) (ov (cst .non)))) (opE isG (prdOk 0) (ov (cst .non))))) (orE (fz (andE (fz (opE isG (prdOk 1) (ov (cst (.bl true))))) (opE isG (prdOk 0) (ov (cst (.bl true)))))) (andE (fz (opE isG (prdOk 1) (ov (cst (.bl false))))) (opE isG (prdOk 0) (ov (cst (.bl false)))))))) skS)
    (rtS (andE (fz (isiE "int" (prdOk 0))) (andE (fz (notE (ov (fz (isiE "bool" (prdOk 0)))))) (opE eqG (prdOk 0) (prdOk 1)))))))))
def fN_law_same : Nat → FnS
  | 0 => fun _ => none
  | n + 1 => fnS 2 (b_law_same (fN_law_same n))
def f_law_same : FnS := fN_law_same 5
def law_same_p1t1 (fr : FnS) : Sls → Option Out := (ifS (orB (notB (trB (ov (fz (isiE "dict" (prdOk 0)))))) (bT (opE neG (ov (fz (calE lenG (consO (prdOk 0) nilO)))) (ov (fz (calE lenG (consO (prdOk 1) nilO))))))) (rtS (rv (cst (.bl false)))) skS)
def law_same_p1t2e1 (fr : FnS) : M T := (fz (andE (fz (opE inG (prdOk 2) (prdOk 0))) (callE fr (consC (fz (opE ixG (prdOk 0) (prdOk 2))) (consC (fz (opE ixG (prdOk 1) (prdOk 2))) nilC)))))
def law_same_p1t2 (fr : FnS) : Sls → Option Out := (rtS (calE allG (consO (ov (fz (lcD 1 (gN 2) yesB (law_same_p1t2e1 fr) [2]))) nilO)))
def law_same_p1t (fr : FnS) : Sls → Option Out := (sqS (law_same_p1t1 fr) (law_same_p1t2 fr))
def law_same_p1 (fr : FnS) : Sls → Option Out := (ifS (trB (ov (fz (isiE "dict" (prdOk 1))))) (law_same_p1t fr) skS)
def law_same_p2t1 (fr : FnS) : Sls → Option Out := (ifS (orB (bT (opE neG (ov (fz (isiE "list" (prdOk 1)))) (ov (fz (isiE "list" (prdOk 0)))))) (bT (opE neG (ov (fz (isiE "tuple" (prdOk 1)))) (ov (fz (isiE "tuple" (prdOk 0))))))) (rtS (rv (cst (.bl false)))) skS)
def law_same_p2t2e1 (fr : FnS) : M T := (fz (callE fr (consC (fz (opE ixG (prdOk 0) (prdOk 3))) (consC (fz (opE ixG (prdOk 1) (prdOk 3))) nilC))))
def law_same_p2t2 (fr : FnS) : Sls → Option Out := (rtS (andE (fz (opE eqG (ov (fz (calE lenG (consO (prdOk 0) nilO)))) (ov (fz (calE lenG (consO (prdOk 1) nilO)))))) (calE allG (consO (ov (fz (lcE (rng1 (consO (ov (fz (calE lenG (consO (prdOk 1) nilO)))) nilO)) (gN 3) yesB (law_same_p2t2e1 fr) [3]))) nilO))))
def law_same_p2t (fr : FnS) : Sls → Option Out := (sqS (law_same_p2t1 fr) (law_same_p2t2 fr))
def law_same_p2 (fr : FnS) : Sls → Option Out := (ifS (orB (trB (ov (fz (isiE "list" (prdOk 1))))) (trB (ov (fz (isiE "tuple" (prdOk 1)))))) (law_same_p2t fr) skS)
def law_same_p3 (fr : FnS) : Sls → Option Out := (ifS (trB (ov (fz (isiE "str" (prdOk 1))))) (rtS (andE (fz (isiE "str" (prdOk 0))) (opE eqG (prdOk 0) (prdOk 1)))) skS)
def law_same_p4 (fr : FnS) : Sls → Option Out := (ifS (orB (bT (opE isG (prdOk 1) (ov (cst .non)))) (orB (bT (opE isG (prdOk 1) (ov (cst (.bl true))))) (bT (opE isG (prdOk 1) (ov (cst (.bl false))))))) (rtS (orE (fz (andE (fz (opE isG (prdOk 1) (ov (cst .non)))) (opE isG (prdOk 0) (ov (cst .non))))) (orE (fz (andE (fz (opE isG (prdOk 1) (ov (cst (.bl true))))) (opE isG (prdOk 0) (ov (cst (.bl true)))))) (andE (fz (opE isG (prdOk 1) (ov (cst (.bl false))))) (opE isG (prdOk 0) (ov (cst (.bl false)))))))) skS)
def law_same_p5 (fr : FnS) : Sls → Option Out := (rtS (andE (fz (isiE "int" (prdOk 0))) (andE (fz (notE (ov (fz (isiE "bool" (prdOk 0)))))) (opE eqG (prdOk 0) (prdOk 1)))))
def law_same_p (fr : FnS) : Sls → Option Out := (sqS (law_same_p1 fr) (sqS (law_same_p2 fr) (sqS (law_same_p3 fr) (sqS (law_same_p4 fr) (law_same_p5 fr)))))
theorem b_law_same_eq (fr : FnS) : b_law_same fr = (law_same_p fr) := rfl

def sok : Nat → T → Prop
  | 0, _ => False
  | n + 1, d => match d with
    | .non => True
    | .bl _ => True
    | .int _ => True
    | .str x => (T.str x).shp = true
    | .tup xs => xs.length ≤ 100000 ∧ ∀ x ∈ xs, sok n x
    | .lst xs => xs.length ≤ 100000 ∧ ∀ x ∈ xs, sok n x
    | .dic kvs => kvs.length ≤ 100000 ∧ ∀ kv ∈ kvs, sok n kv.2 ∧ (keyOf kv.1).isSome = true ∧ lookT kvs kv.1 = some kv.2
    | _ => False
theorem map_const {α : Type} {b : T} : ∀ xs : List α, (xs.map fun _ => b).length = xs.length := fun xs => List.length_map ..
theorem same_seq (n : Nat) (d : T) (xs : List T) (hd : d = .lst xs ∨ d = .tup xs) (hl : xs.length ≤ 100000) (ih : ∀ x ∈ xs, fN_law_same n [.fr x, .fr x] = some (⟨.bl true, false⟩, [.fr x, .fr x])) : fN_law_same (n + 1) [.fr d, .fr d] = some (⟨.bl true, false⟩, [.fr d, .fr d]) := by
  have hz : xs.length ≤ sizeLine := Nat.le_trans hl (by decide)
  have h : lcL (gN 3) yesB (law_same_p2t2e1 (fN_law_same n)) [3] (rngT 0 xs.length) [.fr d, .fr d, .no, .no] = some ((List.range xs.length).map (fun _ => T.bl true), [.fr d, .fr d, .no, .no]) := by
    rw [rngT0]
    refine lcL_mapE _ _ _ fun i hi => ?_
    have hi := List.mem_range.mp hi
    have ha := atI_nat hi
    have hr := ih _ (List.getElem_mem hi)
    rcases hd with rfl | rfl <;> simp [lcOne, law_same_p2t2e1, ha, hr]
  have hall : allG [.lst ((List.range xs.length).map (fun _ => T.bl true))] = some ⟨.bl true, false⟩ := by
    rw [all_lst (fun _ => true)]
    simp
  have hrg := rgOk_n xs.length (by omega)
  rw [show fN_law_same (n + 1) = fnS 2 (b_law_same (fN_law_same n)) from rfl, ev_fn, b_law_same_eq]
  rw [List.map_const', List.length_range] at h hall
  rcases hd with rfl | rfl <;> simp [law_same_p, law_same_p1, law_same_p2, law_same_p2t, law_same_p2t1, law_same_p2t2, isiB, hrg, h, hz, hall]
theorem same_refl : ∀ (n : Nat) (d : T), sok n d → fN_law_same n [.fr d, .fr d] = some (⟨.bl true, false⟩, [.fr d, .fr d])
  | 0, _, h => h.elim
  | n + 1, .non, _ => by
    rw [show fN_law_same (n + 1) = fnS 2 (b_law_same (fN_law_same n)) from rfl, ev_fn, b_law_same_eq]
    simp [law_same_p, law_same_p1, law_same_p2, law_same_p3, law_same_p4, isiB]
  | n + 1, .bl b, _ => by
    rw [show fN_law_same (n + 1) = fnS 2 (b_law_same (fN_law_same n)) from rfl, ev_fn, b_law_same_eq]
    cases b <;> rfl
  | n + 1, .int i, _ => by
    rw [show fN_law_same (n + 1) = fnS 2 (b_law_same (fN_law_same n)) from rfl, ev_fn, b_law_same_eq]
    have h1 : isG (.int i) .non = some ⟨.bl false, false⟩ := rfl
    have h2 : isG (.int i) (.bl true) = some ⟨.bl false, false⟩ := rfl
    have h3 : isG (.int i) (.bl false) = some ⟨.bl false, false⟩ := rfl
    simp [law_same_p, law_same_p1, law_same_p2, law_same_p3, law_same_p4, law_same_p5, isiB, h1, h2, h3]
  | n + 1, .str x, h => by
    have hs : (T.str x).shp = true := h
    have he : eqG (.str x) (.str x) = some ⟨.bl true, false⟩ := by
      unfold eqG
      rw [hs]
      show some (rb (x == x)) = _
      rw [beq_self_eq_true]
    rw [show fN_law_same (n + 1) = fnS 2 (b_law_same (fN_law_same n)) from rfl, ev_fn, b_law_same_eq]
    simp [law_same_p, law_same_p1, law_same_p2, law_same_p3, isiB, he]
  | n + 1, .tup xs, h => same_seq n _ xs (.inr rfl) h.1 fun x hx => same_refl n x (h.2 x hx)
  | n + 1, .lst xs, h => same_seq n _ xs (.inl rfl) h.1 fun x hx => same_refl n x (h.2 x hx)
  | n + 1, .dic kvs, h => by
    have hz : kvs.length ≤ sizeLine := Nat.le_trans h.1 (by decide)
    have hl : lcL (gN 2) yesB (law_same_p1t2e1 (fN_law_same n)) [2] (kvs.map (·.1)) [.fr (.dic kvs), .fr (.dic kvs), .no, .no] = some (kvs.map (fun _ => T.bl true), [.fr (.dic kvs), .fr (.dic kvs), .no, .no]) := by
      refine lcL_mapE _ _ _ fun kv hk => ?_
      obtain ⟨h1, h2, h3⟩ := h.2 kv hk
      have hr := same_refl n kv.2 h1
      have ha : askT (.dic kvs) kv.1 = some (some kv.2) := by
        show (if (keyOf kv.1).isSome then some (lookT kvs kv.1) else none) = _
        rw [h3, h2]
        rfl
      have hin : inG kv.1 (.dic kvs) = some ⟨.bl true, false⟩ := by
        show ((askT (.dic kvs) kv.1).map Option.isSome).map rb = _
        rw [ha]
        rfl
      have hix : ixG (.dic kvs) kv.1 = some ⟨kv.2, false⟩ := by
        show ((askT (.dic kvs) kv.1).bind id).map _ = _
        rw [ha]
        rfl
      simp [lcOne, law_same_p1t2e1, hin, hix, hr]
    have hall : allG [.lst (kvs.map (fun _ => T.bl true))] = some ⟨.bl true, false⟩ := by
      rw [all_lst (fun _ => true)]
      simp
    rw [show fN_law_same (n + 1) = fnS 2 (b_law_same (fN_law_same n)) from rfl, ev_fn, b_law_same_eq]
    rw [List.map_const'] at hl hall
    simp [law_same_p, law_same_p1, law_same_p1t, law_same_p1t1, law_same_p1t2, isiB, hl, hz, hall]
theorem same_ok (d : T) (h : sok 5 d) : f_law_same [.fr d, .fr d] = some (⟨.bl true, false⟩, [.fr d, .fr d]) := same_refl 5 d h
end TR

namespace TR
open PySem L2

/-! ### a whole number of the module, by its name -/
theorem v_gint {X : Cx} {x : Str} {i : Int} {pos : Pos} (hg : Gl X x) (h : ∃ t, X.mg x = some (.int i t)) (hd : (x == ("__debug__" : Str)) = false := by decide) : EV X (.Name x pos) (tC (.int i)) (cst (.int i)) := by
  obtain ⟨t, e⟩ := h
  exact ⟨pe_glob hg e ⟨t, rfl⟩ hd, sv_c fun H => .int i⟩
/-! ### a sealed thing: the kernel can't look into it -/
noncomputable def sl {α : Type} (a : α) : α := Classical.choose (p := fun x => x = a) ⟨a, rfl⟩
theorem sl_eq {α : Type} (a : α) : sl a = a := Classical.choose_spec (p := fun x => x = a) ⟨a, rfl⟩
end TR

namespace TR
open PySem PySem.Spec PyProof.Rows L2

/-! ### zip(.., strict=True) of two lists or tuples -/
/-- a list (false) or a tuple (true) -/
def SLs (b : Bool) (h : Heap) (l : Addr) (xs : Array Value) : Prop := match b with
  | false => h.IsList l xs
  | true => h.IsTuple l xs
def SIt (b : Bool) (h : Heap) (it l : Addr) (k : Nat) : Prop := match b with
  | false => h.IsListIter it l k
  | true => h.IsTupleIter it l k
section
variable {prog : Program} {w : World} {A : Around} {E : Value → Shared → Prop} {s : Shared} {b : Bool} {h h' : Heap} {it l c : Addr} {k : Nat} {xs : Array Value}
theorem SIt.at (d : SIt b h it l k) (g : ∀ o, h.get? it = some o → h'.get? it = some o) : SIt b h' it l k := by
  cases b with
  | false => exact Heap.IsListIter.at (h := h) d g
  | true => exact Heap.IsTupleIter.at (h := h) d g
theorem SIt.ext (d : SIt b h it l k) (g : Heap.ExtBut c h h') (n : it ≠ c) : SIt b h' it l k := d.at fun o e => g _ _ n e
theorem SLs.at (d : SLs b h l xs) (g : ∀ o, h.get? l = some o → h'.get? l = some o) : SLs b h' l xs := by
  cases b with
  | false => exact Heap.IsList.at (h := h) d g
  | true =>
    obtain ⟨o, ho, r⟩ := (show h.IsTuple l xs from d)
    exact (⟨o, g o ho, r⟩ : h'.IsTuple l xs)
theorem SLs.ext (d : SLs b h l xs) (g : Heap.ExtBut c h h') (n : l ≠ c) : SLs b h' l xs := d.at fun o e => g _ _ n e
theorem SIt.lt (d : SIt b h it l k) : ∃ o, h.get? it = some o := by
  cases b with
  | false => obtain ⟨o, e, _⟩ := (show h.IsListIter it l k from d); exact ⟨o, e⟩
  | true => obtain ⟨o, e, _⟩ := (show h.IsTupleIter it l k from d); exact ⟨o, e⟩
theorem SLs.lt (d : SLs b h l xs) : l < h.objs.size := by
  cases b with
  | false =>
    obtain ⟨o, ho, _⟩ := (show h.IsList l xs from d)
    exact Heap.lt_size ho
  | true =>
    obtain ⟨o, ho, _⟩ := (show h.IsTuple l xs from d)
    exact Heap.lt_size ho
theorem noe_item {x : Value} {Q : Option Value → Shared → Prop} (d : SIt b s.heap it l k) (hl : SLs b s.heap l xs) (hx : xs[k]? = some x)
    (hQ : ∀ h', SIt b h' it l (k + 1) → Heap.SameBut it s.heap h' → Q (some x) { s with heap := h' }) : wpAny (model prog w) A (Builtin.SmallTypes.nextOrEnd (.ref it)) Q E s := by
  unfold Builtin.SmallTypes.nextOrEnd
  refine wpAny_bind (wpAny_attempt ?_)
  cases b with
  | false => exact wpAny_nextOf_list_item d hl hx fun h' d' e => wpAny_pure (hQ h' d' e)
  | true => exact RZ.nextOf_tuple_item d hl hx fun h' d' e => wpAny_pure (hQ h' d' e)
theorem noe_end {Q : Option Value → Shared → Prop} (hh : A.handled = none) (d : SIt b s.heap it l k) (hl : SLs b s.heap l xs) (hx : xs[k]? = none)
    (hQ : ∀ h', Heap.ExtBut it s.heap h' → Q none { s with heap := h' }) : wpAny (model prog w) A (Builtin.SmallTypes.nextOrEnd (.ref it)) Q E s := by
  unfold Builtin.SmallTypes.nextOrEnd
  refine wpAny_bind (wpAny_attempt ?_)
  have fin : ∀ (h' : Heap) (e : Addr), Heap.ExtBut it s.heap h' → (∃ o, h'.get? e = some o ∧ o.cls = .type "StopIteration") → wpAny (model prog w) A (do if ← isInstance (.ref e) (.type "StopIteration") then pure none else throw (.ref e)) Q E { s with heap := h' } := fun h' e hk he => by
    obtain ⟨o, ho, hc⟩ := he
    refine wpAny_bind (wpAny_isInstance (T := "StopIteration") (b := true) ⟨o, ho, hc⟩ isSubtype_stop ?_)
    exact wpAny_pure (hQ _ hk)
  cases b with
  | false => exact wpAny_nextOf_list_end hh d hl hx fun h' e hk he => fin h' e hk he
  | true => exact RZ.nextOf_tuple_end hh d hl hx fun h' e hk he => fin h' e hk he
abbrev IsZipS (h : Heap) (z TI TO : Addr) (f0 : Value) : Prop :=
  h.get? z = some { cls := .type "zip", dict := none, data := .fields #[f0, .bool false, .bool true, .ref TI, .ref TO], slots := #[] }
theorem zipS_item {b1 b2 : Bool} {z TI TO i1 i2 l1 l2 : Addr} {k1 k2 : Nat} {xs ys : Array Value} {x y a b : Value} {Q : Value → Shared → Prop} (D : ZipApart z TI TO i1 i2 l1 l2)
    (hz : IsZipS s.heap z TI TO .none) (hTI : IsPair s.heap TI (.ref i1) (.ref i2)) (hTO : IsPair s.heap TO a b)
    (h1 : SIt b1 s.heap i1 l1 k1) (h2 : SIt b2 s.heap i2 l2 k2) (hl1 : SLs b1 s.heap l1 xs) (hl2 : SLs b2 s.heap l2 ys) (hx : xs[k1]? = some x) (hy : ys[k2]? = some y)
    (hQ : ∀ h', IsZipS h' z TI TO (rawInt s.heap.objs.size) → IsPair h' TO x y → SIt b1 h' i1 l1 (k1 + 1) → SIt b2 h' i2 l2 (k2 + 1) → IsPair h' s.heap.objs.size x y → h'.objs.size = s.heap.objs.size + 1 →
      (∀ c o, c ≠ z → c ≠ TO → c ≠ i1 → c ≠ i2 → s.heap.get? c = some o → h'.get? c = some o) → Q (.ref s.heap.objs.size) { s with heap := h' }) :
    wpAny (model prog w) A (Builtin.«zip.__next__» ⟨[.ref z], []⟩) (fun fin s' => ∃ v, fin = .done (.ret v) ∧ Q v s') E s := by
  show wpAny _ _ (field (.ref z) 2 >>= _) _ _ _
  refine wpAny_bind (wpAny_field hz rfl (x := .bool true) rfl ?_)
  show wpAny _ _ (field (.ref z) 3 >>= _) _ _ _
  refine wpAny_bind (wpAny_field hz rfl (x := .ref TI) rfl ?_)
  refine wpAny_bind (wpAny_seqItems hTI rfl ?_)
  show wpAny _ _ (Builtin.SmallTypes.ownedTupleIsFree (.ref z) >>= _) _ _ _
  refine wpAny_bind ?_
  unfold Builtin.SmallTypes.ownedTupleIsFree
  refine wpAny_bind (wpAny_field hz rfl (x := .none) rfl (wpAny_pure ?_))
  simp only [if_true]
  refine wpAny_bind (wpAny_rule ?_)
  refine wpAny_bind (wpAny_field hz rfl (x := .ref TO) rfl ?_)
  refine wpAny_bind (wpAny_setField_rec hz (by simp) fun h₁ hz₁ hs₁ => ?_)
  replace hz₁ : IsZipS h₁ z TI TO .ellipsis := hz₁
  refine wpAny_bind ?_
  simp only [List.zipIdx_cons, List.zipIdx_nil, List.forIn_cons, List.forIn_nil]

  refine wpAny_bind (wpAny_bind (wpAny_onRaise ?_))
  show wpAny _ _ (Builtin.SmallTypes.nextOrEnd (.ref i1)) _ _ _
  refine noe_item (h1.ext hs₁.extBut D.i1z) (hl1.ext hs₁.extBut D.l1z) hx fun h₂ h1₂ hs₂ => ?_
  have hTO₂ : IsPair h₂ TO a b := hs₂.extBut _ _ D.TOi1 (hs₁.extBut _ _ D.TOz hTO)
  refine wpAny_bind (wpAny_seqItems hTO₂ rfl ?_)
  refine wpAny_bind (wpAny_updateSeq_pair hTO₂ fun h₃ hTO₃ hs₃ => ?_)
  replace hTO₃ : IsPair h₃ TO x b := hTO₃
  refine wpAny_bind (wpAny_letGo (wpAny_pure ?_))

  refine wpAny_bind (wpAny_bind (wpAny_onRaise ?_))
  show wpAny _ _ (Builtin.SmallTypes.nextOrEnd (.ref i2)) _ _ _
  refine noe_item (((h2.ext hs₁.extBut D.i2z).ext hs₂.extBut D.i12.symm).ext hs₃.extBut D.TOi2.symm)
    (((hl2.ext hs₁.extBut D.l2z).ext hs₂.extBut D.l2i1).ext hs₃.extBut D.l2TO) hy fun h₄ h2₄ hs₄ => ?_
  have hTO₄ : IsPair h₄ TO x b := hs₄.extBut _ _ D.TOi2 hTO₃
  refine wpAny_bind (wpAny_seqItems hTO₄ rfl ?_)
  refine wpAny_bind (wpAny_updateSeq_pair hTO₄ fun h₅ hTO₅ hs₅ => ?_)
  replace hTO₅ : IsPair h₅ TO x y := hTO₅
  refine wpAny_bind (wpAny_letGo (wpAny_pure (wpAny_pure ?_)))

  refine wpAny_bind (wpAny_seqItems hTO₅ rfl ?_)
  refine wpAny_bind (wpAny_newTuple ?_)
  have hsz : h₅.objs.size = s.heap.objs.size := by rw [hs₅.1, hs₄.1, hs₃.1, hs₂.1, hs₁.1]
  have hz₅ : IsZipS h₅ z TI TO .ellipsis := hs₅.extBut _ _ D.TOz.symm (hs₄.extBut _ _ D.i2z.symm (hs₃.extBut _ _ D.TOz.symm (hs₂.extBut _ _ D.i1z.symm hz₁)))
  have hk₅ : ∀ c o, c ≠ z → c ≠ TO → c ≠ i1 → c ≠ i2 → s.heap.get? c = some o → h₅.get? c = some o := fun c o c1 c2 c3 c4 e =>
    hs₅.extBut _ _ c2 (hs₄.extBut _ _ c4 (hs₃.extBut _ _ c2 (hs₂.extBut _ _ c3 (hs₁.extBut _ _ c1 e))))
  have h1₅ : SIt b1 h₅ i1 l1 (k1 + 1) := ((h1₂.ext hs₃.extBut D.TOi1.symm).ext hs₄.extBut D.i12).ext hs₅.extBut D.TOi1.symm
  have h2₅ : SIt b2 h₅ i2 l2 (k2 + 1) := h2₄.ext hs₅.extBut D.TOi2.symm
  have hzlt : z < h₅.objs.size := Heap.lt_size hz₅
  have hTOlt : TO < h₅.objs.size := Heap.lt_size hTO₅
  show wpAny _ _ (Builtin.SmallTypes.ownedTupleHandOut (.ref z) (.ref h₅.objs.size) >>= _) _ _ _
  refine wpAny_bind ?_
  unfold Builtin.SmallTypes.ownedTupleHandOut
  have hz₆ : IsZipS (h₅.push { cls := .type "tuple", data := .seq #[x, y] }) z TI TO .ellipsis := Heap.get?_push_of_some _ hz₅
  refine wpAny_bind (wpAny_setField_rec hz₆ (by simp) fun h₇ hz₇ hs₇ => ?_)
  replace hz₇ : IsZipS h₇ z TI TO (rawInt h₅.objs.size) := hz₇
  refine wpAny_setField_rec hz₇ (by simp) fun h₈ hz₈ hs₈ => ?_
  replace hz₈ : IsZipS h₈ z TI TO (rawInt h₅.objs.size) := hz₈
  have up : ∀ c o, c ≠ z → h₅.get? c = some o → h₈.get? c = some o := fun c o c1 e => hs₈.extBut _ _ c1 (hs₇.extBut _ _ c1 (Heap.get?_push_of_some _ e))
  have hT₈ : IsPair h₈ h₅.objs.size x y := hs₈.extBut _ _ (Nat.ne_of_gt hzlt) (hs₇.extBut _ _ (Nat.ne_of_gt hzlt) (Heap.get?_push_size _ rfl))
  have hz8 : h₈.objs.size = h₅.objs.size + 1 := by rw [hs₈.1, hs₇.1, Heap.size_push]
  rw [hsz] at hz₈ hT₈ hz8
  refine wpAny_pure ⟨_, rfl, ?_⟩
  show Q (.ref h₅.objs.size) _
  rw [hsz]
  exact hQ h₈ hz₈ (up _ _ D.TOz hTO₅) (h1₅.at fun o e => up _ o D.i1z e) (h2₅.at fun o e => up _ o D.i2z e) hT₈ hz8 fun c o c1 c2 c3 c4 e => up c o c1 (hk₅ c o c1 c2 c3 c4 e)
theorem zipS_end {b1 b2 : Bool} {z TI TO i1 i2 l1 l2 : Addr} {k1 k2 : Nat} {xs ys : Array Value} {a b : Value} {Q : PySem.Fin → Shared → Prop} (hh : A.handled = none) (D : ZipApart z TI TO i1 i2 l1 l2)
    (hz : IsZipS s.heap z TI TO .none) (hTI : IsPair s.heap TI (.ref i1) (.ref i2)) (hTO : IsPair s.heap TO a b)
    (h1 : SIt b1 s.heap i1 l1 k1) (h2 : SIt b2 s.heap i2 l2 k2) (hl1 : SLs b1 s.heap l1 xs) (hl2 : SLs b2 s.heap l2 ys) (hx : xs[k1]? = none) (hy : ys[k2]? = none)
    (hE : ∀ h' e, (∀ c o, c ≠ z → c ≠ TO → c ≠ i1 → c ≠ i2 → s.heap.get? c = some o → h'.get? c = some o) → (∃ o, h'.get? e = some o ∧ o.cls = .type "StopIteration") → E (.ref e) { s with heap := h' }) :
    wpAny (model prog w) A (Builtin.«zip.__next__» ⟨[.ref z], []⟩) Q E s := by
  show wpAny _ _ (field (.ref z) 2 >>= _) _ _ _
  refine wpAny_bind (wpAny_field hz rfl (x := .bool true) rfl ?_)
  show wpAny _ _ (field (.ref z) 3 >>= _) _ _ _
  refine wpAny_bind (wpAny_field hz rfl (x := .ref TI) rfl ?_)
  refine wpAny_bind (wpAny_seqItems hTI rfl ?_)
  show wpAny _ _ (Builtin.SmallTypes.ownedTupleIsFree (.ref z) >>= _) _ _ _
  refine wpAny_bind ?_
  unfold Builtin.SmallTypes.ownedTupleIsFree
  refine wpAny_bind (wpAny_field hz rfl (x := .none) rfl (wpAny_pure ?_))
  simp only [if_true]
  refine wpAny_bind (wpAny_rule ?_)
  refine wpAny_bind (wpAny_field hz rfl (x := .ref TO) rfl ?_)
  refine wpAny_bind (wpAny_setField_rec hz (by simp) fun h₁ hz₁ hs₁ => ?_)
  replace hz₁ : IsZipS h₁ z TI TO .ellipsis := hz₁
  refine wpAny_bind ?_
  simp only [List.zipIdx_cons, List.zipIdx_nil, List.forIn_cons, List.forIn_nil]
  refine wpAny_bind (wpAny_bind (wpAny_onRaise ?_))
  show wpAny _ _ (Builtin.SmallTypes.nextOrEnd (.ref i1)) _ _ _
  refine noe_end hh (h1.ext hs₁.extBut D.i1z) (hl1.ext hs₁.extBut D.l1z) hx fun h₂ hs₂ => ?_
  have hz₂ : IsZipS h₂ z TI TO .ellipsis := hs₂ _ _ D.i1z.symm hz₁
  refine wpAny_bind (wpAny_setField_rec hz₂ (by simp) fun h₃ hz₃ hs₃ => ?_)
  refine wpAny_bind ?_
  refine wpAny_bind ?_
  simp only [List.drop, List.zipIdx_cons, List.zipIdx_nil, List.forIn_cons, List.forIn_nil]
  refine wpAny_bind (wpAny_bind (noe_end hh (((h2.ext hs₁.extBut D.i2z).at fun o e => hs₂ _ _ D.i12.symm e).ext hs₃.extBut D.i2z) (((hl2.ext hs₁.extBut D.l2z).at fun o e => hs₂ _ _ D.l2i1 e).ext hs₃.extBut D.l2z) hy fun h₄ hs₄ => ?_))
  simp only [Option.isSome_none, Bool.false_eq_true, if_false]
  refine wpAny_pure (wpAny_pure ?_)
  refine wpAny_bind (wpAny_rule ?_)
  unfold Builtin.SmallTypes.stopIteration
  refine wpAny_bind ?_
  simp only [newExc, newTuple]
  refine wpAny_bind (wpAny_newObj_type ?_ (by size_fits))
  refine wpAny_bind (m := firstArgMember _ _) (wpAny_of_eq (a := Value.none) (by first | rfl | (simp only [firstArgMember]; rfl)) ?_)
  refine wpAny_newObj_type ?_ (by size_fits)
  simp only [raiseNew]
  refine wpAny_bind (wpAny_handled ?_)
  first | rw [show A.in1.handled = none from hh] | rw [hh]
  refine wpAny_bind (wpAny_pure (wpAny_throw ?_))
  exact hE _ _ (fun c o c1 c2 c3 c4 x => Heap.get?_push_of_some _ (Heap.get?_push_of_some _ (hs₄ _ _ c4 (hs₃.extBut _ _ c1 (hs₂ _ _ c3 (hs₁.extBut _ _ c1 x)))))) ⟨_, Heap.get?_push_size _ rfl, rfl⟩
theorem pyNextS_item {b1 b2 : Bool} {z TI TO i1 i2 l1 l2 : Addr} {k1 k2 : Nat} {xs ys : Array Value} {x y a b : Value} {Q : Option Value → Shared → Prop} (D : ZipApart z TI TO i1 i2 l1 l2)
    (hz : IsZipS s.heap z TI TO .none) (hTI : IsPair s.heap TI (.ref i1) (.ref i2)) (hTO : IsPair s.heap TO a b)
    (h1 : SIt b1 s.heap i1 l1 k1) (h2 : SIt b2 s.heap i2 l2 k2) (hl1 : SLs b1 s.heap l1 xs) (hl2 : SLs b2 s.heap l2 ys) (hx : xs[k1]? = some x) (hy : ys[k2]? = some y)
    (hQ : ∀ h', IsZipS h' z TI TO (rawInt s.heap.objs.size) → IsPair h' TO x y → SIt b1 h' i1 l1 (k1 + 1) → SIt b2 h' i2 l2 (k2 + 1) → IsPair h' s.heap.objs.size x y → h'.objs.size = s.heap.objs.size + 1 →
      (∀ c o, c ≠ z → c ≠ TO → c ≠ i1 → c ≠ i2 → s.heap.get? c = some o → h'.get? c = some o) → Q (some (.ref s.heap.objs.size)) { s with heap := h' }) :
    wpAny (model prog w) A (pyNext (.ref z)) Q E s := by
  have hT : s.TypeIs (.ref z) "zip" := ⟨_, hz, rfl⟩
  unfold pyNext
  exact wpAny_bind (wpAny_attempt (wpAny_callSpecial?_slot (name := Str.ofString "__next__") hT PySem.F.slot_zip_next
    (wpAny_call_entry PySem.F.slot_zip_next hT PySem.F.entry_zip_next
      (zipS_item D hz hTI hTO h1 h2 hl1 hl2 hx hy fun h' a1 a2 a3 a4 a5 a6 a7 => wpAny_pure (hQ h' a1 a2 a3 a4 a5 a6 a7)) (PySem.F.args_zip_next_1 _))))
theorem pyNextS_end {b1 b2 : Bool} {z TI TO i1 i2 l1 l2 : Addr} {k1 k2 : Nat} {xs ys : Array Value} {a b : Value} {Q : Option Value → Shared → Prop} (hh : A.handled = none) (D : ZipApart z TI TO i1 i2 l1 l2)
    (hz : IsZipS s.heap z TI TO .none) (hTI : IsPair s.heap TI (.ref i1) (.ref i2)) (hTO : IsPair s.heap TO a b)
    (h1 : SIt b1 s.heap i1 l1 k1) (h2 : SIt b2 s.heap i2 l2 k2) (hl1 : SLs b1 s.heap l1 xs) (hl2 : SLs b2 s.heap l2 ys) (hx : xs[k1]? = none) (hy : ys[k2]? = none)
    (hQ : ∀ h', (∀ c o, c ≠ z → c ≠ TO → c ≠ i1 → c ≠ i2 → s.heap.get? c = some o → h'.get? c = some o) → Q none { s with heap := h' }) : wpAny (model prog w) A (pyNext (.ref z)) Q E s := by
  have hT : s.TypeIs (.ref z) "zip" := ⟨_, hz, rfl⟩
  unfold pyNext
  refine wpAny_bind (wpAny_attempt (wpAny_callSpecial?_slot (name := Str.ofString "__next__") hT PySem.F.slot_zip_next
    (wpAny_call_entry PySem.F.slot_zip_next hT PySem.F.entry_zip_next (zipS_end hh D hz hTI hTO h1 h2 hl1 hl2 hx hy fun h' e hk he => ?_) (PySem.F.args_zip_next_1 _))))
  obtain ⟨o, ho, hc⟩ := he
  refine wpAny_bind (wpAny_isInstance (T := "StopIteration") (b := true) ⟨o, ho, hc⟩ isSubtype_stop ?_)
  exact wpAny_pure (hQ _ hk)
theorem letGo_zipS {elts : List Expr} {x1} {pos : Pos} {z TI TO T : Addr} {Q : Unit → Shared → Prop} (hz : IsZipS s.heap z TI TO (rawInt T))
    (hQ : ∀ h', IsZipS h' z TI TO .none → Heap.SameBut z s.heap h' → Q () { s with heap := h' }) :
    wpAny (model prog w) A (letOwnedTupleGo (.Tuple elts x1 pos) (.ref z) (.ref T)) Q E s := by
  unfold letOwnedTupleGo
  refine wpAny_bind (wpAny_load hz ?_)
  show wpAny _ _ (if (["enumerate", "zip", "dict_itemiterator", "dict_reverseitemiterator", "odict_iterator", "itertools.zip_longest", "itertools.pairwise"].contains "zip" &&
      (#[rawInt T, .bool false, .bool true, .ref TI, .ref TO] : Array Value)[0]? == some (rawInt T)) = true then _ else _) Q E s
  rw [if_pos (by simp)]
  refine wpAny_bind (wpAny_rule ?_)
  show wpAny _ _ (setField (.ref z) 0 .none) Q E s
  exact wpAny_setField_rec hz (by simp) fun h' hz' hs' => hQ h' hz' hs'
theorem pyIter_zipS {z TI TO : Addr} {f0 : Value} {Q : Value → Shared → Prop} (hz : IsZipS s.heap z TI TO f0) (h : Q (.ref z) s) : wpAny (model prog w) A (pyIter (.ref z)) Q E s := by
  have hT : s.TypeIs (.ref z) "zip" := ⟨_, hz, rfl⟩
  refine wpAny_pyIter_slot hT PySem.F.slot_zip_iter (wpAny_call_entry PySem.F.slot_zip_iter hT PySem.F.entry_zip_iter ?_ (PySem.F.args_zip_iter_1 _))
  show wpAny _ _ (ret (.ref z)) _ _ s
  exact wpAny_pure ⟨_, rfl, "zip", _, hT, PySem.F.slot_zip_next.lookup, h⟩
/-! ### the call -/
theorem callType_kw {T newId initId : String} {Bn Bi : Builtin} {args : List Value} {kw : List (Str × Value)} {S : PySem.Spec} {Q Q₁ : Value → Shared → Prop} (ft : TypeCalled T newId initId)
    (hct : checkTypeCall T ⟨args, kw⟩ = pure ()) (hcn : checkBuiltinCall newId ⟨.type T :: args, kw⟩ = pure ())
    (entryN : entryFor table newId = some Bn) (entryI : entryFor table initId = some Bi) (g : Meets (Bn ⟨.type T :: args, kw⟩) S)
    (h : S A.in1 (wants Q₁ E) s)
    (hnext : ∀ obj s₁, Q₁ obj s₁ → s₁.TypeIs obj T ∧ argsOk initId ⟨obj :: args, kw⟩ ∧ ∃ Si, Meets (Bi ⟨obj :: args, kw⟩) Si ∧ Si A.in1 (wants (fun r s₂ => r = .none ∧ Q obj s₂) E) s₁) :
    wpAny (model prog w) A (call (.type T) args kw) Q E s := by
  obtain ⟨c, tl, hmro⟩ := ft.mro
  have hmade := ft.made
  have hsub := ft.sub
  refine wpAny_call (codeAny_of_tree ?_)
  show wpAny _ _ (callAny (.type T) _) _ _ _
  refine wpAny_pure ⟨Code.quiet_builtin _ (by decide +kernel), codeAny_builtin PySem.F.entry_type_call ?_⟩
  rw [Around.under_plain (weight_type_call_type T args kw) (units_type_call_type T args kw)]
  have h1 := ft.notType
  have h2 := ft.canCreate
  repeat (any_goals (first | assumption | wp_step))
  refine codeAny_mono (codeAny_call_builtin ft.plain entryN (wpAny_of_eq hcn (g prog w A.in1 _ s h))) fun r s₁ hr => ?_
  cases r with
  | error e => exact hr
  | ok fl =>
    cases fl with
    | ret obj =>
      obtain ⟨hT, hok, Si, gi, hsi⟩ := hnext _ _ hr
      have hli := ft.init.lookup
      have hbi := ft.init.bind obj
      repeat (any_goals (first | assumption | wp_step))
      refine codeAny_mono (codeAny_call_builtin ft.init.plain entryI (ft.init.check _ _ _ _ _ _ _ _ hT hok (gi prog w A.in1 _ s₁ hsi))) fun r₂ s₂ hr₂ => ?_
      cases r₂ with
      | error e => exact hr₂
      | ok fl₂ =>
        cases fl₂ with
        | ret r =>
          obtain ⟨rfl, hq⟩ := hr₂
          repeat (any_goals (first | assumption | wp_step))
        | _ => exact hr₂.elim
    | _ => exact hr.elim
end
def itN (b : Bool) : String := if b = true then "tuple_iterator" else "list_iterator"
abbrev zsH1 (b1 : Bool) (h : Heap) (l1 : Addr) : Heap := h.push { cls := .type (itN b1), data := .fields #[.ref l1, .int 0 0] }
abbrev zsH2 (b1 b2 : Bool) (h : Heap) (l1 l2 : Addr) : Heap := (zsH1 b1 h l1).push { cls := .type (itN b2), data := .fields #[.ref l2, .int 0 0] }
abbrev zsH3 (b1 b2 : Bool) (h : Heap) (l1 l2 : Addr) : Heap := (zsH2 b1 b2 h l1 l2).push { cls := .type "tuple", data := .seq #[.ref h.objs.size, .ref (zsH1 b1 h l1).objs.size] }
abbrev zsH4 (b1 b2 : Bool) (h : Heap) (l1 l2 : Addr) : Heap := (zsH3 b1 b2 h l1 l2).push { cls := .type "tuple", data := .seq #[.none, .none] }
abbrev zsH5 (b1 b2 : Bool) (h : Heap) (l1 l2 : Addr) : Heap := (zsH4 b1 b2 h l1 l2).push { cls := .type "zip", data := .fields #[.none, .bool false, .bool true, .ref (zsH2 b1 b2 h l1 l2).objs.size, .ref (zsH3 b1 b2 h l1 l2).objs.size] }
section
variable {prog : Program} {w : World} {A : Around} {E : Value → Shared → Prop} {s : Shared}
theorem pyIter_SLs {b : Bool} {l : Addr} {xs : Array Value} {Q : Value → Shared → Prop} (hl : SLs b s.heap l xs) (h : Q (.ref s.heap.objs.size) { s with heap := s.heap.push { cls := .type (itN b), data := .fields #[.ref l, .int 0 0] } }) :
    wpAny (model prog w) A (pyIter (.ref l)) Q E s := by
  cases b with
  | false => exact wpAny_pyIter_list (show s.heap.IsList l xs from hl) h
  | true => exact wpAny_pyIter_tuple (show s.heap.IsTuple l xs from hl) h
end
theorem meets_zipS_new (b1 b2 : Bool) (l1 l2 : Addr) (xs ys : Array Value) :
    Meets (Builtin.«zip.__new__» ⟨[.type "zip", .ref l1, .ref l2], [("strict", .bool true)]⟩) (fun _ R s => SLs b1 s.heap l1 xs ∧ SLs b2 s.heap l2 ys ∧
      R (.ok (.ret (.ref (zsH4 b1 b2 s.heap l1 l2).objs.size))) { s with heap := zsH5 b1 b2 s.heap l1 l2 }) :=
  .of_wp fun prog w A R s h => by
    obtain ⟨hp, g, d, tk, os⟩ := s; obtain ⟨hl1, hl2, h⟩ := h
    have hsub := sub_zip
    have hL1 : SLs b1 (Shared.heap ⟨hp, g, d, tk, os⟩) l1 xs := hl1
    have hL2 : SLs b2 (Shared.heap ⟨hp.push { cls := .type (itN b1), data := .fields #[.ref l1, .int 0 0] }, g, d, tk, os⟩) l2 ys := hl2.at fun o e => Heap.get?_push_of_some _ e
    wp_walk using pyIter_SLs hL1, pyIter_SLs hL2
    exact ⟨_, rfl, h⟩
theorem typeCall_zipS (a b : Value) : checkTypeCall "zip" ⟨[a, b], [("strict", .bool true)]⟩ = pure () := by kernel_rfl
theorem newCall_zipS (a b : Value) : checkBuiltinCall "zip.__new__" ⟨[.type "zip", a, b], [("strict", .bool true)]⟩ = pure () := by kernel_rfl
theorem args_zipS (a b c : Value) : argsOk "object.__init__" ⟨[a, b, c], [("strict", .bool true)]⟩ := by
  unfold argsOk; rw [signature?_of (id := "object.__init__") (n := ['_', '_', 't', 'i', 'n', 'i', '_', '_']) (o := ['t', 'c', 'e', 'j', 'b', 'o']) (by kernel_rfl) PySem.F.owner_object]; kernel_rfl
theorem object_init_kw {T newId : String} {self a b : Value} (hl : typeLookup (.type T) "__init__" = pure (some (.builtin "object.__init__")))
    (hm : Bind.madeBy (.type T) = pure (some newId)) (hne : (some newId != some "object.__new__") = true) :
    Meets (Builtin.«object.__init__» ⟨[self, a, b], [("strict", .bool true)]⟩) (fun _ R s => s.TypeIs self T ∧ R (.ok (.ret .none)) s) := by
  refine Meets.of_wp fun prog w A R s hs => ?_
  obtain ⟨hT, hq⟩ := hs
  repeat (any_goals (first | assumption | wp_step))
  exact ⟨_, rfl, hq⟩
section
variable {prog : Program} {w : World} {A : Around} {E : Value → Shared → Prop} {s : Shared}
theorem it_new {b : Bool} {h : Heap} {it l : Addr} (e : h.get? it = some { cls := .type (itN b), data := .fields #[.ref l, .int 0 0] }) : SIt b h it l 0 := by
  cases b with
  | false => exact (⟨_, e, rfl, rfl⟩ : h.IsListIter it l 0)
  | true => exact (⟨_, e, rfl, rfl⟩ : h.IsTupleIter it l 0)
theorem call_zipS {b1 b2 : Bool} {l1 l2 : Addr} {xs ys : Array Value} {Q : Value → Shared → Prop} (hl1 : SLs b1 s.heap l1 xs) (hl2 : SLs b2 s.heap l2 ys)
    (h : ∀ h', IsZipS h' (s.heap.objs.size + 4) (s.heap.objs.size + 2) (s.heap.objs.size + 3) .none → IsPair h' (s.heap.objs.size + 2) (.ref s.heap.objs.size) (.ref (s.heap.objs.size + 1)) →
      IsPair h' (s.heap.objs.size + 3) .none .none → SIt b1 h' s.heap.objs.size l1 0 → SIt b2 h' (s.heap.objs.size + 1) l2 0 → h'.objs.size = s.heap.objs.size + 5 →
      (∀ c o, s.heap.get? c = some o → h'.get? c = some o) → Q (.ref (s.heap.objs.size + 4)) { s with heap := h' }) :
    wpAny (model prog w) A (call (.type "zip") [.ref l1, .ref l2] [("strict", .bool true)]) Q E s := by
  refine callType_kw PySem.F.called_zip (typeCall_zipS _ _) (newCall_zipS _ _) PySem.F.entry_zip_new PySem.F.entry_object_init
    (meets_zipS_new b1 b2 l1 l2 xs ys) (Q₁ := fun obj s₁ => s₁.TypeIs obj "zip" ∧ Q obj s₁) ⟨hl1, hl2, ?_⟩ fun obj _ hq => ⟨hq.1, args_zipS _ _ _, _, object_init_kw PySem.F.called_zip.init.lookup PySem.F.called_zip.made (by decide), hq.1, rfl, hq.2⟩
  have z1 : (zsH1 b1 s.heap l1).objs.size = s.heap.objs.size + 1 := Heap.size_push ..
  have z2 : (zsH2 b1 b2 s.heap l1 l2).objs.size = s.heap.objs.size + 2 := by rw [Heap.size_push, z1]
  have z3 : (zsH3 b1 b2 s.heap l1 l2).objs.size = s.heap.objs.size + 3 := by rw [Heap.size_push, z2]
  have z4 : (zsH4 b1 b2 s.heap l1 l2).objs.size = s.heap.objs.size + 4 := by rw [Heap.size_push, z3]
  have z5 : (zsH5 b1 b2 s.heap l1 l2).objs.size = s.heap.objs.size + 5 := by rw [Heap.size_push, z4]
  have g5 : (zsH5 b1 b2 s.heap l1 l2).get? (zsH4 b1 b2 s.heap l1 l2).objs.size = some _ := Heap.get?_push_size _ rfl
  have g4 : (zsH5 b1 b2 s.heap l1 l2).get? (zsH3 b1 b2 s.heap l1 l2).objs.size = some _ := Heap.get?_push_of_some _ (Heap.get?_push_size _ rfl)
  have g3 : (zsH5 b1 b2 s.heap l1 l2).get? (zsH2 b1 b2 s.heap l1 l2).objs.size = some _ := Heap.get?_push_of_some _ (Heap.get?_push_of_some _ (Heap.get?_push_size _ rfl))
  have g2 : (zsH5 b1 b2 s.heap l1 l2).get? (zsH1 b1 s.heap l1).objs.size = some _ := Heap.get?_push_of_some _ (Heap.get?_push_of_some _ (Heap.get?_push_of_some _ (Heap.get?_push_size _ rfl)))
  have g1 : (zsH5 b1 b2 s.heap l1 l2).get? s.heap.objs.size = some _ := Heap.get?_push_of_some _ (Heap.get?_push_of_some _ (Heap.get?_push_of_some _ (Heap.get?_push_of_some _ (Heap.get?_push_size _ rfl))))
  show _ ∧ _
  rw [z2, z3, z4] at g5
  rw [z1, z2] at g3
  rw [z3] at g4
  rw [z1] at g2
  rw [z4]
  exact ⟨⟨_, g5, rfl⟩, h _ g5 g3 g4 (it_new g1) (it_new g2) z5 fun c o x =>
    Heap.get?_push_of_some _ (Heap.get?_push_of_some _ (Heap.get?_push_of_some _ (Heap.get?_push_of_some _ (Heap.get?_push_of_some _ x))))⟩
end
end TR

namespace TR
open PySem L2 PyProof.Rows

def SqB (K : PySem.W.Frag) (b : Bool) (H : Hp) (a : Addr) (xs : List V) : Prop := match b with
  | false => SqL K H a xs
  | true => SqT K H a xs
theorem SqB.inv {X : Cx} {pins : List (Addr × Obj)} {σ : L2.St} {H : Hp} {s : Shared} {b : Bool} {a : Addr} {xs : List V} (I : Inv X pins σ H s) (h : SqB X.K b H a xs) :
    ∃ its : List Value, Vals xs its ∧ SLs b s.heap a its.toArray := by
  cases b with
  | false =>
    obtain ⟨its, rv, p, _⟩ := I.list (show SqL X.K H a xs from h)
    exact ⟨its, rv, p.isList⟩
  | true =>
    obtain ⟨its, rv, p, _⟩ := I.tuple (show SqT X.K H a xs from h)
    exact ⟨its, rv, p⟩
theorem SqB.inj {X : Cx} {pins : List (Addr × Obj)} {σ : L2.St} {H : Hp} {s : Shared} {b : Bool} {a : Addr} {xs ys : List V} (I : Inv X pins σ H s) (h : SqB X.K b H a xs) (h2 : SqB X.K b H a ys) : xs = ys := by
  cases b with
  | false => exact I.list_inj (show SqL X.K H a xs from h) h2
  | true => exact I.tuple_inj (show SqT X.K H a xs from h) h2
/-- two lists or tuples as they stand at each turn, the items in new pairs; the end of both at once -/
def ItzS (K : PySem.W.Frag) (b1 b2 : Bool) (a b : Addr) : It :=
  ⟨fun i H => ∃ (xs ys : List V) (x y : V), SqB K b1 H a xs ∧ SqB K b2 H b ys ∧ xs[i]? = some x ∧ ys[i]? = some y,
    fun i H v H' => ∃ T x y, v = .ref T ∧ H T = none ∧ H' = upd H T (.tup [x, y]) ∧ (∀ xs, SqB K b1 H a xs → xs[i]? = some x) ∧ ∀ ys, SqB K b2 H b ys → ys[i]? = some y,
    fun i H => ∃ xs ys : List V, SqB K b1 H a xs ∧ SqB K b2 H b ys ∧ xs.length ≤ i ∧ ys.length ≤ i⟩
theorem turn_zipS {P : Program} {w : World} {K : PySem.W.Frag} {elts : List Expr} {kk : Nat} {tpos : Pos} {b1 b2 : Bool} {a b z TI TO i1 i2 : Addr} (D : ZipApart z TI TO i1 i2 a b) :
    Turn P w K (.Tuple elts kk tpos) (ItzS K b1 b2 a b) [z, TI, TO, i1, i2] z (fun i h => IsZipS h z TI TO .none ∧ IsPair h TI (.ref i1) (.ref i2) ∧ (∃ x y, IsPair h TO x y) ∧ SIt b1 h i1 a i ∧ SIt b2 h i2 b i) where
  mem := by simp
  obj := fun i h st c hc => by
    obtain ⟨hz, hTI, ⟨x, y, hTO⟩, h1, h2⟩ := st
    have e' : c = z ∨ c = TI ∨ c = TO ∨ c = i1 ∨ c = i2 := by simpa using hc
    have aux : ∀ {bb : Bool} {i l : Addr} {k : Nat}, SIt bb h i l k → ∃ o, h.get? i = some o ∧ ∀ v, o.data ≠ .seq v := fun {bb i l k} d => by
      cases bb with
      | false => obtain ⟨o1, e1, _, d1⟩ := (show h.IsListIter i l k from d); exact ⟨o1, e1, fun v q => by rw [d1] at q; cases q⟩
      | true => obtain ⟨o1, e1, _, d1⟩ := (show h.IsTupleIter i l k from d); exact ⟨o1, e1, fun v q => by rw [d1] at q; cases q⟩
    have aux2 : ∀ {bb : Bool} {i l : Addr} {k : Nat}, SIt bb h i l k → ∃ o, h.get? i = some o ∧ o.data = .fields #[.ref l, .int k 0] := fun {bb i l k} d => by
      cases bb with
      | false => obtain ⟨o1, e1, _, d1⟩ := (show h.IsListIter i l k from d); exact ⟨o1, e1, d1⟩
      | true => obtain ⟨o1, e1, _, d1⟩ := (show h.IsTupleIter i l k from d); exact ⟨o1, e1, d1⟩
    rcases e' with q | q | q | q | q
    · rw [q]; exact ⟨_, hz, fun v q => nomatch q⟩
    · rw [q]; exact ⟨_, hTI, fun v q => nomatch q⟩
    · rw [q]; exact ⟨_, hTO, fun v q => nomatch q⟩
    · rw [q]; obtain ⟨o1, e1, d1⟩ := aux2 h1; exact ⟨o1, e1, fun v q => by rw [d1] at q; cases q⟩
    · rw [q]; obtain ⟨o1, e1, d1⟩ := aux2 h2; exact ⟨o1, e1, fun v q => by rw [d1] at q; cases q⟩
  keep := fun i h h' st k => by
    obtain ⟨hz, hTI, ⟨x, y, hTO⟩, h1, h2⟩ := st
    exact ⟨k z (by simp) _ hz, k TI (by simp) _ hTI, ⟨x, y, k TO (by simp) _ hTO⟩, h1.at fun o q => k i1 (by simp) o q, h2.at fun o q => k i2 (by simp) o q⟩
  item := by
    intro X hP hw hK hc i pins s σ H E I hf st hg
    subst hP hw hK
    obtain ⟨hz, hTI, ⟨x0, y0, hTO⟩, h1, h2⟩ := st
    obtain ⟨xs, ys, x, y, hqx, hqy, hx, hy⟩ := hg
    obtain ⟨its, rv, p⟩ := hqx.inv I
    obtain ⟨its2, rv2, p2⟩ := hqy.inv I
    obtain ⟨u, hu, ru⟩ := rv.get hx
    obtain ⟨u2, hu2, ru2⟩ := rv2.get hy
    have hzl : z < s.heap.objs.size := Heap.lt_size hz
    refine pyNextS_item D hz hTI hTO h1 h2 p p2 (x := u) (y := u2) (by simpa using hu) (by simpa using hu2) fun h' z' TO' h1' h2' hT hsz hk => ?_
    refine ⟨_, rfl, letGo_zipS (s := { s with heap := h' }) z' fun h'' z'' sb => ?_⟩
    have hT2 : h''.get? s.heap.objs.size = some { cls := .type "tuple", data := .seq #[u, u2] } := (sb.2 _ (Nat.ne_of_gt hzl)).trans hT
    have new : ObjOk X.prog X.w (upd H s.heap.objs.size (.tup [x, y])) h'' s.heap.objs.size (.tup [x, y]) :=
      ⟨by show 2 ≤ sizeLine; decide, [u, u2], .cons ru (.cons ru2 .nil), ⟨_, hT2, rfl, _, rfl⟩⟩
    have I1 : Inv X pins σ (upd H s.heap.objs.size (.tup [x, y])) { s with heap := h'' } :=
      I.turnedNew (t' := s.toks) (ch := [z, TI, TO, i1, i2]) (fun c o hb q => (sb.2 c (fun q' => hb (by simp [q']))).trans (hk c o (fun q' => hb (by simp [q'])) (fun q' => hb (by simp [q'])) (fun q' => hb (by simp [q'])) (fun q' => hb (by simp [q'])) q)) hf (Nat.le_refl _) new
    refine ⟨.ref s.heap.objs.size, _, I1, rfl, ⟨_, x, y, rfl, I.hok.fresh (Nat.le_refl _), rfl, fun l hl => by rw [SqB.inj I hl hqx]; exact hx, fun l hl => by rw [SqB.inj I hl hqy]; exact hy⟩, ⟨z'', ?_, ⟨u, u2, ?_⟩, ?_, ?_⟩, fun c hcm => ?_⟩
    · exact (sb.2 _ D.TIz).trans (hk _ _ D.TIz D.TITO D.TIi1 D.TIi2 hTI)
    · exact (sb.2 _ D.TOz).trans TO'
    · exact h1'.at fun o q => (sb.2 _ D.i1z).trans q
    · exact h2'.at fun o q => (sb.2 _ D.i2z).trans q
    · have hlt : c < s.heap.objs.size := by
        have e' : c = z ∨ c = TI ∨ c = TO ∨ c = i1 ∨ c = i2 := by simpa using hcm
        rcases e' with q | q | q | q | q
        · rw [q]; exact hzl
        · rw [q]; exact Heap.lt_size hTI
        · rw [q]; exact Heap.lt_size hTO
        · rw [q]; obtain ⟨_, e1⟩ := h1.lt; exact Heap.lt_size e1
        · rw [q]; obtain ⟨_, e2⟩ := h2.lt; exact Heap.lt_size e2
      rw [upd_ne (Nat.ne_of_lt hlt)]
      exact (hf c hcm).1
  done := by
    intro X hP hw hK hc i pins s σ H E I hf st hg
    subst hP hw hK
    obtain ⟨hz, hTI, ⟨x0, y0, hTO⟩, h1, h2⟩ := st
    obtain ⟨xs, ys, hqx, hqy, e1, e2⟩ := hg
    obtain ⟨its, rv, p⟩ := hqx.inv I
    obtain ⟨its2, rv2, p2⟩ := hqy.inv I
    have l1 := rv.length
    have l2 := rv2.length
    exact pyNextS_end (I.ok.hd hc) D hz hTI hTO h1 h2 p p2 (by simp; omega) (by simp; omega) fun h' hk => ⟨rfl, I.turnedL (t' := s.toks) (ch := [z, TI, TO, i1, i2]) (fun c o hb q =>
      hk c o (fun q' => hb (by simp [q'])) (fun q' => hb (by simp [q'])) (fun q' => hb (by simp [q'])) (fun q' => hb (by simp [q'])) q) hf⟩
  self := fun A i s Q E st h => pyIter_zipS st.1 h
section
variable {M : Model} {A : Around} {E : Value → Shared → Prop} {s : Shared} {env : Env}
theorem callWith_type_kw {pos : Pos} {T : String} {args : List (Bool × Sem Value)} {keywords : List (Option Str × Sem Value)} {Q : Value → Shared → Prop}
    (hplain : args.any (·.1) = false) (hkw : keywords.any (·.1.isNone) = false)
    (h : wpAny M A (evalArgs (.type T) true args keywords) (fun a s₁ => wpAny M A (call (.type T) a.pos a.kw) Q E s₁) E s) :
    wpAny M A (callWith pos (.type T) [] args keywords) Q E s := by
  unfold callWith
  refine wpAny_bind (wpAny_holding (wpAny_mono h (fun a s₁ h₁ => wpAny_bind (wpAny_standAt ?_)) fun _ _ x => x))
  simp only [hplain, hkw, Bool.or_false]
  refine wpAny_bind (wpAny_pure ?_)
  exact wpAny_bind (wpAny_mono h₁ (fun r s₂ hr => wpAny_bind (wpAny_holding (wpAny_point (wpAny_pure hr)))) fun _ _ x => x)
end
def iZipS (K : PySem.W.Frag) (ta : TA) : TI := fun σ H R => ta σ H fun vs H1 => ∃ b1 b2 a b xs ys, vs = [.ref a, .ref b] ∧ SqB K b1 H1 a xs ∧ SqB K b2 H1 b ys ∧ R (ItzS K b1 b2 a b) H1
theorem pi_zipS {X : Cx} {e e2 : Expr} {ta : TA} {p pos tpos kp cp : Pos} {kj : Nat} {elts : List Expr} {kk : Nat} (hg : Gl X "zip") (hm : X.mg "zip" = none) (ha : PA X [e, e2] ta)
    (he : backTo pos (starEach [e, e2] X.env) = (false, eval e X.env) :: backTo pos (starEach [e2] X.env) := by rfl) (hpl : (backTo pos (starEach [e, e2] X.env)).any (·.1) = false := by rfl)
    (hall : (backToKw pos (keywordEach [⟨some "strict", .Constant (.bool true) kj cp, kp⟩] X.env)).all (·.1.isSome) = true := by rfl)
    (hnone : (backToKw pos (keywordEach [⟨some "strict", .Constant (.bool true) kj cp, kp⟩] X.env)).any (·.1.isNone) = false := by rfl)
    (hks : (backToKw pos (keywordEach [⟨some "strict", .Constant (.bool true) kj cp, kp⟩] X.env)).filterMap (·.1) = [("strict" : Str)] := by rfl) :
    PI X (.Tuple elts kk tpos) (.Call (.Name "zip" p) [e, e2] [⟨some "strict", .Constant (.bool true) kj cp, kp⟩] pos) (iZipS X.K ta) := by
  refine ⟨fun pins s σ H R I h => ?_⟩
  refine wpAny_Call_Name_kw (ld_blt I hg hm PyProof.Rows.boot_zip ?_)
  refine callWith_type_kw hpl hnone ?_
  rw [he]
  refine evalArgs_kwB hall ?_
  rw [← he]
  refine thn (ha.run pos pins s σ H _ I h) fun us s1 ⟨vs, H1, I1, r1, q1⟩ => ?_
  obtain ⟨b1, b2, a, b, xs, ys, ex, hqx, hqy, q⟩ := q1
  subst ex
  refine kws_cons (Constant_bool (kws_nil ?_))
  rw [hks]
  cases r1 with
  | cons r rr =>
    cases rr with
    | cons r' rr =>
      cases rr
      cases r
      cases r'
      obtain ⟨its, rv, p1⟩ := hqx.inv I1
      obtain ⟨its2, rv2, p2⟩ := hqy.inv I1
      show wpAny _ _ (call (.type "zip") [.ref a, .ref b] [("strict", .bool true)]) _ _ _
      refine call_zipS p1 p2 fun h' hz hTI hTO h1 h2 hsz hk => pyIter_zipS hz ?_
      have I2 : Inv X pins σ H1 { s1 with heap := h' } := I1.kept (t' := s1.toks) hk
      refine ⟨s1.heap.objs.size + 4, [s1.heap.objs.size + 4, s1.heap.objs.size + 2, s1.heap.objs.size + 3, s1.heap.objs.size, s1.heap.objs.size + 1], _, _, H1, rfl, I2, turn_zipS (PySem.W.ktu_apart s1.heap.objs.size a b p1.lt p2.lt), ⟨hz, hTI, ⟨_, _, hTO⟩, h1, h2⟩, fun c hcm => ?_, q⟩
      have e' : c = s1.heap.objs.size + 4 ∨ c = s1.heap.objs.size + 2 ∨ c = s1.heap.objs.size + 3 ∨ c = s1.heap.objs.size ∨ c = s1.heap.objs.size + 1 := by simpa using hcm
      have hle : s1.heap.objs.size ≤ c := by
        rcases e' with z | z | z | z | z
        · rw [z]; exact Nat.le_add_right _ _
        · rw [z]; exact Nat.le_add_right _ _
        · rw [z]; exact Nat.le_add_right _ _
        · rw [z]; exact Nat.le_refl _
        · rw [z]; exact Nat.le_add_right _ _
      exact I1.fpOk hle (I1.hok.fresh hle)
/-! ### the tree level -/
def anyL : T → Option (List T)
  | .lst ds => some ds
  | .frl ds => some ds
  | .tup ds => some ds
  | _ => none
def zipP : List T → List T → List T
  | a :: r, b :: q => .tup [a, b] :: zipP r q
  | _, _ => []
theorem zipP_get : ∀ (xs ys : List T) (i : Nat), (zipP xs ys)[i]? = (xs[i]?).bind fun x => (ys[i]?).map fun y => .tup [x, y]
  | [], ys, i => by simp [zipP]
  | _ :: _, [], i => by simp [zipP]
  | a :: r, b :: q, 0 => by simp [zipP]
  | a :: r, b :: q, i + 1 => by simp [zipP, zipP_get r q i]
theorem zipP_length : ∀ (xs ys : List T), xs.length = ys.length → (zipP xs ys).length = xs.length
  | [], ys, _ => rfl
  | _ :: _, [], h => by simp at h
  | a :: r, b :: q, h => by simp only [zipP, List.length_cons]; rw [zipP_length r q (by simpa using h)]
theorem zipP_map {α : Type} (f g : α → T) : ∀ (xs : List α), zipP (xs.map f) (xs.map g) = xs.map fun x => .tup [f x, g x]
  | [] => rfl
  | a :: r => by simp [zipP, zipP_map f g r]
theorem zipP_zip {α β : Type} (f : α → T) (g : β → T) : ∀ (xs : List α) (ys : List β), zipP (xs.map f) (ys.map g) = (xs.zip ys).map fun p => .tup [f p.1, g p.2]
  | [], _ => by simp [zipP]
  | _ :: _, [] => by simp [zipP]
  | a :: r, b :: q => by simp [zipP, zipP_zip f g r q]
def zipSI (fa : M (List T)) : M (List T) := fun τ => (fa τ).bind fun p => match p.1 with
  | [d, d2] => (anyL d).bind fun xs => (anyL d2).bind fun ys => if xs.length = ys.length then some (zipP xs ys, p.2) else none
  | _ => none
theorem Rp.anyL {K : PySem.W.Frag} {F : Hp} {v : V} {d : T} {ds : List T} (r : Rp K F v d) (e : anyL d = some ds) : ∃ b a vs, v = .ref a ∧ SqB K b F a vs ∧ RpA K F vs ds := by
  cases r with
  | lst h ra => cases e; exact ⟨false, _, _, rfl, .inl (.inl h), ra⟩
  | frl h ra => cases e; exact ⟨false, _, _, rfl, h, ra⟩
  | tup h ra => cases e; exact ⟨true, _, _, rfl, SqT.of h, ra⟩
  | _ => cases e
theorem Same.sqB {K : PySem.W.Frag} {H H' : Hp} {b : Bool} {a : Addr} {xs : List V} (e : Same H H') (h : SqB K b H a xs) : SqB K b H' a xs := by
  cases b with
  | false => exact Same.seq e (show SqL K H a xs from h)
  | true => exact Same.sqT e (show SqT K H a xs from h)
theorem i_zipS {X : Cx} {e e2 : Expr} {ta : TA} {fa : M (List T)} {p pos tpos kp cp : Pos} {kj : Nat} {elts : List Expr} {kk : Nat} (hg : Gl X "zip") (hm : X.mg "zip" = none) (ha : EAV X [e, e2] ta fa)
    (he : backTo pos (starEach [e, e2] X.env) = (false, eval e X.env) :: backTo pos (starEach [e2] X.env) := by rfl) (hpl : (backTo pos (starEach [e, e2] X.env)).any (·.1) = false := by rfl)
    (hall : (backToKw pos (keywordEach [⟨some "strict", .Constant (.bool true) kj cp, kp⟩] X.env)).all (·.1.isSome) = true := by rfl)
    (hnone : (backToKw pos (keywordEach [⟨some "strict", .Constant (.bool true) kj cp, kp⟩] X.env)).any (·.1.isNone) = false := by rfl)
    (hks : (backToKw pos (keywordEach [⟨some "strict", .Constant (.bool true) kj cp, kp⟩] X.env)).filterMap (·.1) = [("strict" : Str)] := by rfl) :
    EI X (.Tuple elts kk tpos) (.Call (.Name "zip" p) [e, e2] [⟨some "strict", .Constant (.bool true) kj cp, kp⟩] pos) (iZipS X.K ta) (zipSI fa) := by
  refine ⟨pi_zipS hg hm ha.pe he hpl hall hnone hks, ?_⟩
  intro τ τ' ds σ H F R ee k c
  unfold zipSI at ee
  obtain ⟨q, h1, ee⟩ := Option.bind_eq_some_iff.mp ee
  split at ee
  · rename_i d d2 hq
    obtain ⟨es, g1, ee⟩ := Option.bind_eq_some_iff.mp ee
    obtain ⟨es2, g2, ee⟩ := Option.bind_eq_some_iff.mp ee
    split at ee
    · rename_i hlen
      cases ee
      refine ha.s τ q.2 q.1 σ H F _ h1 k fun vs H1 F1 k1 s1 r1 => ?_
      rw [hq] at r1
      cases r1 with
      | cons a b =>
        cases b with
        | cons a2 b =>
          cases b
          obtain ⟨b1, p1, ws, rfl, hs, ra⟩ := a.anyL g1
          obtain ⟨b2, p2, ws2, rfl, hs2, ra2⟩ := a2.anyL g2
          refine ⟨b1, b2, p1, p2, ws, ws2, rfl, Same.sqB k1.sub hs, Same.sqB k1.sub hs2, c _ H1 F1 k1 s1 ⟨fun H2 s2 => ⟨ws, ws2, Same.sqB s2 hs, Same.sqB s2 hs2, by rw [zipP_length _ _ hlen, ra.length]; exact Nat.le_refl _, by rw [zipP_length _ _ hlen, hlen, ra2.length]; exact Nat.le_refl _⟩, fun i d H2 F2 hi s2 s3 => ?_⟩⟩
          rw [zipP_get] at hi
          obtain ⟨d', hd, hi⟩ := Option.bind_eq_some_iff.mp hi
          obtain ⟨d'2, hd2, rfl⟩ := Option.map_eq_some_iff.mp hi
          obtain ⟨v, hv, rv⟩ := ra.get hd
          obtain ⟨v2, hv2, rv2⟩ := ra2.get hd2
          have hq1 : SqB X.K b1 H2 p1 ws := Same.sqB s3 (Same.sqB s2 hs)
          have hq2 : SqB X.K b2 H2 p2 ws2 := Same.sqB s3 (Same.sqB s2 hs2)
          refine ⟨⟨ws, ws2, v, v2, hq1, hq2, hv, hv2⟩, fun x H3 y => ?_⟩
          obtain ⟨T', x', y', rfl, hT, rfl, hx, hy⟩ := y
          have hx' := hx ws hq1
          rw [hv] at hx'
          cases hx'
          have hy' := hy ws2 hq2
          rw [hv2] at hy'
          cases hy'
          have g := Grow.upd (o := .tup [v, v2]) s3 hT
          exact ⟨_, g, .tup upd_same (.cons (rv.mono (s2.trans g.ff)) (.one (rv2.mono (s2.trans g.ff))))⟩
    · cases ee
  · cases ee
@[simp] theorem ev_zipSI {τ : Sls} {fa : M (List T)} : zipSI fa τ = (fa τ).bind fun p => match p.1 with
  | [d, d2] => (anyL d).bind fun xs => (anyL d2).bind fun ys => if xs.length = ys.length then some (zipP xs ys, p.2) else none
  | _ => none := id rfl
@[simp] theorem ev_anyL_lst {ds : List T} : anyL (.lst ds) = some ds := id rfl
@[simp] theorem ev_anyL_frl {ds : List T} : anyL (.frl ds) = some ds := id rfl
@[simp] theorem ev_anyL_tup {ds : List T} : anyL (.tup ds) = some ds := id rfl
end TR

namespace TR
open PySem L2 PyProof.Rows

/-! ### list(range(a, b, c)) -/
def rgVC (lo c : Int) (n : Nat) : List V := (List.range n).map fun i => V.int (lo + (i : Nat) * c)
theorem vals_rgC {a c : Int} {n : Nat} {acc : Array Value} (h : ItemsOf (fun i v => ∃ t, v = .int (a + i * c) t) acc n) : Vals (rgVC a c n) acc.toList := by
  have e : acc.toList.length = n := by rw [Array.length_toList]; exact h.1
  unfold rgVC
  rw [← e]
  refine vals_of_get acc.toList _ fun j u hj => ?_
  obtain ⟨t, rfl⟩ := h.2 j u (by rw [← hj, Array.getElem?_toList])
  exact ⟨t, rfl⟩
theorem rgVC_rp {K : PySem.W.Frag} {F : Hp} (c : Int) : ∀ (n : Nat) (a : Int), RpA K F (rgVC a c n) (rngS a c n)
  | 0, _ => .nil
  | n + 1, a => by
    unfold rgVC
    rw [List.range_succ_eq_map, List.map_cons, List.map_map, rngS]
    refine .cons (by rw [show a + ((0 : Nat) : Int) * c = a by simp]; exact .int _) ?_
    have e : ((fun i : Nat => V.int (a + (i : Nat) * c)) ∘ Nat.succ) = fun i : Nat => V.int (a + c + (i : Nat) * c) := by
      funext i
      show V.int (a + ((i + 1 : Nat) : Int) * c) = _
      have e2 : ((i + 1 : Nat) : Int) * c = (i : Int) * c + c := by
        rw [Int.natCast_add, Int.add_mul]
        simp
      rw [e2]
      congr 1
      omega
    rw [e]
    exact rgVC_rp c n (a + c)
def tLstRg3 (ta : TA) : TE := fun σ H Q => ta σ H fun vs H1 => ∃ i j c n, vs = [.int i, .int j, .int c] ∧ RgC i j c n ∧ n ≤ 2 ^ 24 ∧ ∀ q, H1 q = none → Q (.ref q) (upd H1 q (.lst (rgVC i c n)))
theorem pe_listRg3 {X : Cx} {a b c : Expr} {ta : TA} {p pos p3 pos2 : Pos} (hc : X.calm = true) (hg3 : Gl X "list") (hm3 : X.mg "list" = none) (hg : Gl X "range") (hm : X.mg "range" = none) (ha : PA X [a, b, c] ta)
    (hs : starEach [a, b, c] X.env = (false, eval a X.env) :: starEach [b, c] X.env := by rfl) (hpl : (backTo pos2 (starEach [b, c] X.env)).any (·.1) = false := by rfl)
    (na : starEach [.Call (.Name "range" p) [a, b, c] [] pos2] X.env = (false, eval (.Call (.Name "range" p) [a, b, c] [] pos2) X.env) :: starEach [] X.env := by rfl) :
    PE X (.Call (.Name "list" p3) [.Call (.Name "range" p) [a, b, c] [] pos2] [] pos) (tLstRg3 ta) := by
  refine ⟨fun pins s σ H Q I h => ?_⟩
  refine Call_ (ld_blt I hg3 hm3 boot_list (PyProof.Rows.callWith_type1 (args_cons ?_ na) na))
  refine Call_ (ld_blt I hg hm boot_range (PyProof.Rows.callWith_type1 (thn (ha.run pos2 pins s σ H _ I h) fun us s1 ⟨vs, H1, I1, r1, q1⟩ => ?_) hs hpl))
  obtain ⟨i, j, k, n, e, ⟨c0, c1, c2, c3⟩, c4, q⟩ := q1
  subst e
  cases r1 with
  | cons r rr =>
    cases rr with
    | cons r' rr =>
      cases rr with
      | cons r'' rr =>
        cases rr
        obtain ⟨t, rfl⟩ := r
        obtain ⟨t', rfl⟩ := r'
        obtain ⟨t'', rfl⟩ := r''
        refine call_range_3 c0 ?_ (.inl (PyProof.noPylong_small c1))
        refine args_nil ?_
        have I2 : Inv X pins σ H1 { s1 with heap := s1.heap.push { cls := .type "range", data := .fields #[.int i t, .int j t', .int k t''] } } := I1.kept (t' := s1.toks) fun b o e => Heap.get?_push_of_some _ e
        refine call_list_range (n := n) (I2.ok.hd hc) (IsRange.new ..) c2 c3 c4 fun h' tk acc c' hk e' hi => ?_
        refine ⟨.ref _, upd H1 _ (.lst (rgVC i k n)), I2.laid hk (Nat.le_refl _) (show ObjOk X.prog X.w _ _ _ (.lst (rgVC i k n)) from ⟨?_, acc.toList, c', vals_rgC hi, ?_⟩), rfl, q _ (I2.hok.fresh (Nat.le_refl _))⟩
        · unfold rgVC; rw [List.length_map, List.length_range, sizeLine_eq]; omega
        · rw [Array.toArray_toList]; exact e'
def lrgE3 (fa : M (List (Sls → Option T))) : M R := fun τ => (fa τ).bind fun p => (allRd p.1 p.2).bind fun ds => match ds with
  | [.int i, .int j, .int c] => (rgcN i j c).bind fun n => if Nat.ble n 16777216 = true then some (⟨.lst (rngS i c n), true⟩, p.2) else none
  | _ => none
theorem e_listRg3 {X : Cx} {a b c : Expr} {ta : TA} {fa : M (List (Sls → Option T))} {p pos pos2 : Pos} (hc : X.calm = true) (hg3 : Gl X "list") (hm3 : X.mg "list" = none) (hg : Gl X "range") (hm : X.mg "range" = none) (ha : EAO X [a, b, c] ta fa)
    (hs : starEach [a, b, c] X.env = (false, eval a X.env) :: starEach [b, c] X.env := by rfl) (hpl : (backTo pos2 (starEach [b, c] X.env)).any (·.1) = false := by rfl)
    (na : starEach [.Call (.Name "range" p) [a, b, c] [] pos2] X.env = (false, eval (.Call (.Name "range" p) [a, b, c] [] pos2) X.env) :: starEach [] X.env := by rfl) {p3 : Pos} :
    EE X (.Call (.Name "list" p3) [.Call (.Name "range" p) [a, b, c] [] pos2] [] pos) (tLstRg3 ta) (lrgE3 fa) := by
  refine ⟨pe_listRg3 hc hg3 hm3 hg hm ha.pe hs hpl na, ?_⟩
  intro τ τ' res σ H F Q e k cc
  unfold lrgE3 at e
  obtain ⟨q, h1, e⟩ := Option.bind_eq_some_iff.mp e
  obtain ⟨as, h2, e⟩ := Option.bind_eq_some_iff.mp e
  split at e
  · obtain ⟨n, h3, e⟩ := Option.bind_eq_some_iff.mp e
    split at e
    · rename_i hn
      cases e
      refine ha.s τ q.2 q.1 σ H F _ h1 k fun vs H1 F1 k1 s1 l1 => ?_
      cases l1 _ _ _ _ k1 .refl h2 with
      | cons a b =>
        cases b with
        | cons b d =>
          cases d with
          | cons d d' =>
            cases d'
            rw [a.int, b.int, d.int]
            have hn' : n ≤ 2 ^ 24 := by have := Nat.le_of_ble_eq_true hn; omega
            exact ⟨_, _, _, n, rfl, rgcN_ok h3, hn', fun q hq => new_lst k1.sub hq (rgVC_rp _ _ _) fun v H' F' g ro => cc v H' F' (k1.grow g) (s1.trans g.step) ((ro.ok k1 g).back s1)⟩
    · cases e
  · cases e
@[simp] theorem ev_lrg3 {τ : Sls} {fa : M (List (Sls → Option T))} : lrgE3 fa τ = (fa τ).bind fun p => (allRd p.1 p.2).bind fun ds => match ds with
  | [.int i, .int j, .int c] => (rgcN i j c).bind fun n => if Nat.ble n 16777216 = true then some (⟨.lst (rngS i c n), true⟩, p.2) else none
  | _ => none := id rfl
end TR

namespace TR
open PySem L2
def b_is_state : Sls → Option Out :=
  (sqS (ifS (orB (notB (trB (ov (fz (isiE "list" (prdOk 1)))))) (bT (opE neG (ov (fz (calE lenG (consO (prdOk 1) nilO)))) (ov (fz (opE addG (ov (fz (calE lenG (consO (prdOk 0) nilO)))) (ov (cst (.int 1))))))))) (rtS (rv (cst (.bl false)))) skS)
    (sqS (ifS (notB (trB (ov (fz (calE allG (consO (ov (fz (lcE (lstI (vrd 1)) (gN 2) yesB (fz (andE (fz (isiE "int" (prdOk 2))) (notE (ov (fz (isiE "bool" (prdOk 2))))))) [2]))) nilO)))))) (rtS (rv (cst (.bl false)))) skS)
    (rtS (calE allG (consO (ov (fz (lcE (enuI (consV (vrd 0) nilV)) (gT (gsCons (gN 3) (gsCons (gN 4) gsNil))) yesB (fz (chE leG leG (ov (cst (.int 0))) (ov (fz (opE subG (ov (fz (opE ixG (prdOk 1) (prdOk 3)))) (ov (fz (opE ixG (prdOk 1) (ov (fz (opE addG (prdOk 3) (ov (cst (.int 1)))))))))))) (prdOk 4))) [3, 4]))) nilO)))))
def f_is_state : FnS := fnS 3 b_is_state
def b_turned : Sls → Option Out :=
  (sqS (asgS 3 (lstE (consV (fz (opE addG (ov (fz (opE ixG (prdOk 1) (ov (cst (.int 0)))))) (prdOk 2))) nilV)))
    (sqS (forS (enuI (consV (vrd 0) nilV)) (gT (gsCons (gN 4) (gsCons (gN 5) gsNil))) (sqS (asgS 6 (opE ixG (prdOk 3) (ov (fz (unE negG (ov (cst (.int 1))))))))
    (exS (metE 3 appG (consV (fz (calE min2G (consO (ov (fz (calE max2G (consO (ov (fz (opE ixG (prdOk 1) (ov (fz (opE addG (prdOk 4) (ov (cst (.int 1))))))))) (consO (ov (fz (opE subG (prdOk 6) (prdOk 5)))) nilO))))) (consO (prdOk 6) nilO)))) nilV)))))
    (mvS 3)))
def f_turned : FnS := fnS 4 b_turned
def b_turned_by : Sls → Option Out :=
  (sqS (asgS 3 (calE listG (consO (prdOk 1) nilO)))
    (sqS (forS (lstI (vrd 2)) (gN 4) (asgS 3 (callE f_turned (consC (vrd 0) (consC (vrd 3) (consC (vrd 4) nilC))))))
    (mvS 3)))
def f_turned_by : FnS := fnS 2 b_turned_by
def b_opens : Sls → Option Out :=
  (sqS (forS (zipSI (consV (vrd 1) (consV (vrd 2) nilV))) (gT (gsCons (gN 4) (gsCons (gN 5) gsNil))) (sqS (asgS 6 (opE modG (ov (fz (opE subG (prdOk 4) (prdOk 5)))) (prdOk 0)))
    (ifS (bT (opE gtG (ov (fz (calE min2G (consO (prdOk 6) (consO (ov (fz (opE subG (prdOk 0) (prdOk 6)))) nilO))))) (prdOk 3))) (rtS (rv (cst (.bl false)))) skS)))
    (rtS (rv (cst (.bl true)))))
def f_opens : FnS := fnS 3 b_opens
def b_opening_count : Sls → Option Out :=
  (sqS (asgS 3 (rv (cst (.int 1))))
    (sqS (forS (lstI (vrd 1)) (gN 4) (asgS 3 (opE mulG (prdOk 3) (ov (fz (calE min2G (consO (ov (fz (opE addG (ov (fz (opE mulG (ov (cst (.int 2))) (prdOk 2)))) (ov (cst (.int 1)))))) (consO (prdOk 0) nilO))))))))
    (mvS 3)))
def f_opening_count : FnS := fnS 2 b_opening_count
def b_way_to : Sls → Option Out :=
  (sqS (asgS 3 (lstE nilV))
    (sqS (asgS 4 (calE listG (consO (prdOk 1) nilO)))
    (sqS (asgS 5 (rv (cst (.bl true))))
    (sqS (forS (rng3 (consO (ov (fz (opE subG (ov (fz (calE lenG (consO (prdOk 2) nilO)))) (ov (cst (.int 1)))))) (consO (ov (fz (unE negG (ov (cst (.int 1)))))) (consO (ov (fz (unE negG (ov (cst (.int 1)))))) nilO)))) (gN 6) (sqS (asgS 7 (opE addG (ov (fz (opE ixG (prdOk 2) (prdOk 6)))) (ov (fz (ifE (trB (prdOk 5)) (calE sumA (consO (ov (fz (slE (prdOk 0) noP (soP (vrd 6))))) nilO)) (rv (cst (.int 0))))))))
    (sqS (ifS (bT (opE eqG (prdOk 6) (ov (fz (opE subG (ov (fz (calE lenG (consO (prdOk 2) nilO)))) (ov (cst (.int 1)))))))) (sqS (asgS 8 (opE subG (ov (fz (calE min2G (consO (ov (fz (opE ixG (prdOk 4) (ov (cst (.int 0)))))) (consO (ov (fz (opE subG (prdOk 7) (ov (fz (calE sumA (consO (prdOk 0) nilO))))))) nilO))))) (ov (cst (.int 1)))))
    (sqS (exS (metE 3 appG (consV (fz (opE subG (prdOk 8) (ov (fz (opE ixG (prdOk 4) (ov (cst (.int 0)))))))) nilV)))
    (asgS 4 (callE f_turned (consC (vrd 0) (consC (vrd 4) (consC (fz (opE subG (prdOk 8) (ov (fz (opE ixG (prdOk 4) (ov (cst (.int 0)))))))) nilC))))))) skS)
    (sqS (exS (metE 3 appG (consV (fz (opE subG (prdOk 7) (ov (fz (opE ixG (prdOk 4) (ov (cst (.int 0)))))))) nilV)))
    (sqS (asgS 4 (callE f_turned (consC (vrd 0) (consC (vrd 4) (consC (fz (opE subG (prdOk 7) (ov (fz (opE ixG (prdOk 4) (ov (cst (.int 0)))))))) nilC)))))
    (asgS 5 (notE (prdOk 5))))))))
    (rtS (lcE (lstI (vrd 3)) (gN 9) (bT (opE neG (prdOk 9) (ov (cst (.int 0))))) (vrd 9) [9]))))))
def f_way_to : FnS := fnS 7 b_way_to
def b_enough_numbers : Sls → Option Out :=
  (rtS (lrgE3 (consO (ov (cst (.int 0))) (consO (prdOk 0) (consO (ov (fz (opE addG (ov (fz (opE mulG (ov (cst (.int 2))) (prdOk 1)))) (ov (cst (.int 1)))))) nilO)))))
def f_enough_numbers : FnS := fnS 0 b_enough_numbers
def b_tries : Sls → Option Out :=
  (sqS (asgS 3 (rv (cst (.int 1))))
    (sqS (forS (rng1 (consO (prdOk 1) nilO)) (gN 4) (asgS 3 (opE mulG (prdOk 3) (ov (fz (calE lenG (consO (ov (fz (callE f_enough_numbers (consC (vrd 0) (consC (vrd 2) nilC))))) nilO)))))))
    (mvS 3)))
def f_tries : FnS := fnS 2 b_tries
def b_law_different : Sls → Option Out :=
  (sqS (asgS 1 (lstE nilV))
    (sqS (forS (lstI (vrd 0)) (gN 2) (ifS (bT (opE ninG (prdOk 2) (prdOk 1))) (exS (metE 1 appG (consV (vrd 2) nilV))) skS))
    (mvS 1)))
def f_law_different : FnS := fnS 2 b_law_different
def b_law_clamped : Sls → Option Out :=
  (sqS (asgS 3 (lstE (consV (fz (opE addG (ov (fz (opE ixG (prdOk 1) (ov (cst (.int 0)))))) (prdOk 2))) nilV)))
    (sqS (forS (rng1 (consO (ov (fz (calE lenG (consO (prdOk 0) nilO)))) nilO)) (gN 4) (sqS (asgS 5 (opE ixG (prdOk 1) (ov (fz (opE addG (prdOk 4) (ov (cst (.int 1))))))))
    (sqS (asgS 6 (opE subG (ov (fz (opE ixG (prdOk 3) (prdOk 4)))) (ov (fz (opE ixG (prdOk 0) (prdOk 4))))))
    (exS (metE 3 appG (consV (fz (ifE (bT (opE ltG (prdOk 5) (prdOk 6))) (rv (vrd 6)) (ifE (bT (opE gtG (prdOk 5) (ov (fz (opE ixG (prdOk 3) (prdOk 4)))))) (opE ixG (prdOk 3) (prdOk 4)) (rv (vrd 5))))) nilV))))))
    (mvS 3)))
def f_law_clamped : FnS := fnS 4 b_law_clamped
def b_law_state_drawn : Sls → Option Out :=
  (sqS (asgS 2 (lstE (consV (fz (opE subG (ov (fz (callE f_law_draw (plcC 0 (consC (cst (.int 21)) nilC))))) (ov (cst (.int 10))))) nilV)))
    (sqS (forS (lstI (vrd 1)) (gN 3) (exS (metE 2 appG (consV (fz (opE subG (ov (fz (opE ixG (prdOk 2) (ov (fz (unE negG (ov (cst (.int 1))))))))) (ov (fz (callE f_law_draw (plcC 0 (consC (fz (opE addG (prdOk 3) (ov (cst (.int 1))))) nilC))))))) nilV))))
    (mvS 2)))
def f_law_state_drawn : FnS := fnS 2 b_law_state_drawn
def b_law_opens : Sls → Option Out :=
  (sqS (forS (rng1 (consO (ov (fz (calE lenG (consO (prdOk 2) nilO)))) nilO)) (gN 4) (sqS (asgS 5 (opE modG (ov (fz (calE intG (consO (ov (fz (opE subG (ov (fz (opE ixG (prdOk 1) (prdOk 4)))) (ov (fz (opE ixG (prdOk 2) (prdOk 4))))))) nilO)))) (prdOk 0)))
    (ifS (andB (bT (opE gtG (prdOk 5) (prdOk 3))) (bT (opE gtG (ov (fz (opE subG (prdOk 0) (prdOk 5)))) (prdOk 3)))) (rtS (rv (cst (.bl false)))) skS)))
    (rtS (rv (cst (.bl true)))))
def f_law_opens : FnS := fnS 2 b_law_opens
def b_law_stepped : Sls → Option Out :=
  (sqS (asgS 3 (calE listG (consO (prdOk 1) nilO)))
    (sqS (forS (rng1 (consO (ov (fz (calE max2G (consO (prdOk 2) (consO (ov (fz (unE negG (prdOk 2)))) nilO))))) nilO)) (gN 4) (sqS (asgS 5 (ifE (bT (opE gtG (prdOk 2) (ov (cst (.int 0))))) (rv (cst (.int 1))) (unE negG (ov (cst (.int 1))))))
    (sqS (ixS 3 (fz (opE addG (ov (fz (opE ixG (prdOk 3) (ov (cst (.int 0)))))) (prdOk 5))) (cst (.int 0)))
    (forS (rng1 (consO (ov (fz (calE lenG (consO (prdOk 0) nilO)))) nilO)) (gN 6) (ifS (orB (bT (opE gtG (ov (fz (opE subG (ov (fz (opE ixG (prdOk 3) (prdOk 6)))) (ov (fz (opE ixG (prdOk 3) (ov (fz (opE addG (prdOk 6) (ov (cst (.int 1)))))))))))) (ov (fz (opE ixG (prdOk 0) (prdOk 6)))))) (bT (opE gtG (ov (fz (opE ixG (prdOk 3) (ov (fz (opE addG (prdOk 6) (ov (cst (.int 1))))))))) (ov (fz (opE ixG (prdOk 3) (prdOk 6))))))) (ixS 3 (fz (opE addG (ov (fz (opE ixG (prdOk 3) (ov (fz (opE addG (prdOk 6) (ov (cst (.int 1))))))))) (prdOk 5))) (fz (opE addG (prdOk 6) (ov (cst (.int 1)))))) skS)))))
    (mvS 3)))
def f_law_stepped : FnS := fnS 4 b_law_stepped
def b_law : Sls → Option Out :=
  (sqS (asgS 1 (callE f_law_pool (consC (vrd 0) nilC)))
    (sqS (asgS 2 (lcE (rng1 (consO (ov (fz (callE f_law_draw (plcC 1 (consC (cst (.int 4)) nilC))))) nilO)) (gN 4) yesB (fz (callE f_law_draw (plcC 1 (consC (cst (.int 8)) nilC)))) [4]))
    (sqS (asgS 3 (callE f_law_state_drawn (plcC 1 (consC (vrd 2) nilC))))
    (sqS (ifS (bT (opE isnG (ov (fz (callE f_is_state (consC (vrd 2) (consC (fz (calE listG (consO (prdOk 3) nilO))) nilC))))) (ov (cst (.bl true))))) (rtS (rv (cst (.bl false)))) skS)
    (sqS (forS (rng1 (consO (ov (cst (.int 3))) nilO)) (gN 4) (sqS (exS (callE f_law_next (plcC 1 nilC)))
    (sqS (asgS 18 (calE listG (consO (prdOk 3) nilO)))
    (sqS (asgS 19 (callE f_law_draw (plcC 1 (consC (fz (calE lenG (consO (prdOk 18) nilO))) nilC))))
    (sqS (ixS 18 (fz (opE subG (ov (fz (opE addG (ov (fz (opE ixG (prdOk 18) (prdOk 19)))) (ov (fz (callE f_law_draw (plcC 1 (consC (cst (.int 9)) nilC)))))))) (ov (cst (.int 4))))) (vrd 19))
    (sqS (asgS 20 (calE allG (consO (ov (fz (lcE (rng1 (consO (ov (fz (calE lenG (consO (prdOk 2) nilO)))) nilO)) (gN 23) yesB (fz (andE (fz (opE leG (ov (cst (.int 0))) (ov (fz (opE subG (ov (fz (opE ixG (prdOk 18) (prdOk 23)))) (ov (fz (opE ixG (prdOk 18) (ov (fz (opE addG (prdOk 23) (ov (cst (.int 1)))))))))))))) (opE leG (ov (fz (opE subG (ov (fz (opE ixG (prdOk 18) (prdOk 23)))) (ov (fz (opE ixG (prdOk 18) (ov (fz (opE addG (prdOk 23) (ov (cst (.int 1)))))))))))) (ov (fz (opE ixG (prdOk 2) (prdOk 23))))))) [23]))) nilO)))
    (ifS (notB (trB (ov (fz (callE f_law_same (consC (fz (callE f_is_state (consC (vrd 2) (consC (vrd 18) nilC)))) (consC (vrd 20) nilC))))))) (rtS (rv (cst (.bl false)))) skS)))))))
    (sqS (ifS (trB (ov (fz (calE anyG (consO (ov (fz (lcE (lstI (fz (lstE (consV (cst .non) (consV (fz (calE tupleG (consO (prdOk 3) nilO))) (consV (fz (slE (prdOk 3) (soP (cst (.int 1))) noP)) (consV (fz (opE addG (prdOk 3) (ov (fz (lstE (consV (cst (.int 0)) nilV)))))) (consV (fz (opE mulG (ov (fz (lstE (consV (cst (.bl true)) nilV)))) (ov (fz (calE lenG (consO (prdOk 3) nilO)))))) (consV (fz (opE mulG (ov (fz (lstE (consV (cst (.str "1")) nilV)))) (ov (fz (calE lenG (consO (prdOk 3) nilO)))))) nilV))))))))) (gN 22) yesB (fz (callE f_is_state (consC (vrd 2) (consC (vrd 22) nilC)))) [22]))) nilO))))) (rtS (rv (cst (.bl false)))) skS)
    (sqS (asgS 5 (lcE (rng1 (consO (ov (fz (callE f_law_draw (plcC 1 (consC (cst (.int 5)) nilC))))) nilO)) (gN 4) yesB (fz (opE subG (ov (fz (callE f_law_draw (plcC 1 (consC (cst (.int 31)) nilC))))) (ov (cst (.int 15))))) [4]))
    (sqS (asgS 6 (calE listG (consO (prdOk 3) nilO)))
    (sqS (asgS 7 (calE listG (consO (prdOk 3) nilO)))
    (sqS (asgS 8 (opE addG (ov (cst (.int 2))) (ov (fz (callE f_law_draw (plcC 1 (consC (cst (.int 11)) nilC)))))))
    (sqS (forS (lstI (vrd 5)) (gN 9) (sqS (asgS 21 (callE f_turned (consC (vrd 2) (consC (fz (calE listG (consO (prdOk 7) nilO))) (consC (vrd 9) nilC)))))
    (sqS (ifS (orB (notB (trB (ov (fz (callE f_law_same (consC (vrd 21) (consC (fz (callE f_law_stepped (consC (vrd 2) (consC (vrd 7) (consC (vrd 9) nilC))))) nilC))))))) (notB (trB (ov (fz (callE f_law_same (consC (fz (callE f_turned (consC (vrd 2) (consC (fz (lcE (lstI (vrd 7)) (gN 24) yesB (fz (opE addG (prdOk 24) (prdOk 8))) [24])) (consC (vrd 9) nilC))))) (consC (fz (lcE (lstI (vrd 21)) (gN 24) yesB (fz (opE addG (prdOk 24) (prdOk 8))) [24])) nilC)))))))) (rtS (rv (cst (.bl false)))) skS)
    (asgS 7 (rv (vrd 21))))))
    (sqS (ifS (orB (notB (trB (ov (fz (callE f_law_same (consC (fz (callE f_turned_by (consC (vrd 2) (consC (vrd 6) (consC (fz (calE listG (consO (prdOk 5) nilO))) nilC))))) (consC (vrd 7) nilC))))))) (bT (opE neG (prdOk 6) (prdOk 3)))) (rtS (rv (cst (.bl false)))) skS)
    (sqS (exS (callE f_law_next (plcC 1 nilC)))
    (sqS (asgS 10 (lcE (lstI (vrd 3)) (gN 15) yesB (fz (callE f_law_draw (plcC 1 (consC (vrd 8) nilC)))) [15]))
    (sqS (asgS 11 (callE f_law_draw (plcC 1 (consC (cst (.int 4)) nilC))))
    (sqS (asgS 12 (rv (cst (.int 1))))
    (sqS (forS (lstI (vrd 10)) (gN 13) (asgS 12 (opE mulG (prdOk 12) (ov (fz (calE lenG (consO (ov (fz (lcE (rng1 (consO (prdOk 8) nilO)) (gN 24) (trB (ov (fz (callE f_law_opens (consC (vrd 8) (consC (fz (lstE (consV (vrd 24) nilV))) (consC (fz (lstE (consV (vrd 13) nilV))) (consC (vrd 11) nilC)))))))) (vrd 24) [24]))) nilO)))))))
    (sqS (ifS (notB (trB (ov (fz (callE f_law_same (consC (fz (lstE (consV (fz (callE f_opens (consC (vrd 8) (consC (vrd 7) (consC (vrd 10) (consC (vrd 11) nilC)))))) (consV (fz (callE f_opening_count (consC (vrd 8) (consC (vrd 10) (consC (vrd 11) nilC))))) nilV)))) (consC (fz (lstE (consV (fz (callE f_law_opens (consC (vrd 8) (consC (vrd 7) (consC (vrd 10) (consC (vrd 11) nilC)))))) (consV (vrd 12) nilV)))) nilC))))))) (rtS (rv (cst (.bl false)))) skS)
    (sqS (asgS 5 (callE f_enough_numbers (consC (vrd 8) (consC (vrd 11) nilC))))
    (sqS (ifS (orB (bT (opE neG (prdOk 5) (ov (fz (calE sortedG (consO (ov (fz (callE f_law_different (consC (vrd 5) nilC)))) nilO)))))) (notB (trB (ov (fz (calE allG (consO (ov (fz (lcE (rng1 (consO (prdOk 8) nilO)) (gN 24) yesB (fz (calE anyG (consO (ov (fz (lcE (lstI (vrd 5)) (gN 9) yesB (fz (callE f_law_opens (consC (vrd 8) (consC (fz (lstE (consV (vrd 24) nilV))) (consC (fz (lstE (consV (vrd 9) nilV))) (consC (vrd 11) nilC)))))) [9]))) nilO))) [24]))) nilO))))))) (rtS (rv (cst (.bl false)))) skS)
    (sqS (ifS (orB (bT (opE neG (ov (fz (calE lenG (consO (prdOk 5) nilO)))) (ov (fz (unE negG (ov (fz (opE fdivG (ov (fz (unE negG (prdOk 8)))) (ov (fz (opE addG (ov (fz (opE mulG (ov (cst (.int 2))) (prdOk 11)))) (ov (cst (.int 1)))))))))))))) (notB (trB (ov (fz (callE f_law_same (consC (vrd 5) (consC (fz (lcE (rng1 (consO (ov (fz (calE lenG (consO (prdOk 5) nilO)))) nilO)) (gN 4) yesB (fz (opE mulG (prdOk 4) (ov (fz (opE addG (ov (fz (opE mulG (ov (cst (.int 2))) (prdOk 11)))) (ov (cst (.int 1)))))))) [4])) nilC)))))))) (rtS (rv (cst (.bl false)))) skS)
    (sqS (asgS 14 (rv (cst (.int 1))))
    (sqS (forS (lstI (vrd 3)) (gN 15) (asgS 14 (opE mulG (prdOk 14) (ov (fz (calE lenG (consO (prdOk 5) nilO)))))))
    (sqS (ifS (bT (opE neG (ov (fz (callE f_tries (consC (vrd 8) (consC (fz (calE lenG (consO (prdOk 3) nilO))) (consC (vrd 11) nilC)))))) (prdOk 14))) (rtS (rv (cst (.bl false)))) skS)
    (sqS (asgS 16 (callE f_law_state_drawn (plcC 1 (consC (vrd 2) nilC))))
    (sqS (asgS 17 (callE f_way_to (consC (vrd 2) (consC (fz (calE listG (consO (prdOk 3) nilO))) (consC (fz (calE listG (consO (prdOk 16) nilO))) nilC)))))
    (sqS (ifS (orB (bT (opE inG (ov (cst (.int 0))) (prdOk 17))) (orB (bT (opE gtG (ov (fz (calE lenG (consO (prdOk 17) nilO)))) (ov (fz (opE addG (ov (fz (calE lenG (consO (prdOk 3) nilO)))) (ov (cst (.int 1)))))))) (bT (opE neG (ov (fz (callE f_law_clamped (consC (vrd 2) (consC (vrd 3) (consC (cst (.int 0)) nilC)))))) (prdOk 3))))) (rtS (rv (cst (.bl false)))) skS)
    (sqS (asgS 7 (calE listG (consO (prdOk 3) nilO)))
    (sqS (forS (lstI (vrd 17)) (gN 9) (asgS 7 (callE f_law_clamped (consC (vrd 2) (consC (vrd 7) (consC (vrd 9) nilC))))))
    (rtS (opE eqG (prdOk 7) (prdOk 16))))))))))))))))))))))))))))))))
def f_law : FnS := fnS 24 b_law

def is_state_p1 : Sls → Option Out := (ifS (orB (notB (trB (ov (fz (isiE "list" (prdOk 1)))))) (bT (opE neG (ov (fz (calE lenG (consO (prdOk 1) nilO)))) (ov (fz (opE addG (ov (fz (calE lenG (consO (prdOk 0) nilO)))) (ov (cst (.int 1))))))))) (rtS (rv (cst (.bl false)))) skS)
def is_state_p2e1 : M T := (fz (andE (fz (isiE "int" (prdOk 2))) (notE (ov (fz (isiE "bool" (prdOk 2)))))))
def is_state_p2 : Sls → Option Out := (ifS (notB (trB (ov (fz (calE allG (consO (ov (fz (lcE (lstI (vrd 1)) (gN 2) yesB is_state_p2e1 [2]))) nilO)))))) (rtS (rv (cst (.bl false)))) skS)
def is_state_p3e1 : M T := (fz (chE leG leG (ov (cst (.int 0))) (ov (fz (opE subG (ov (fz (opE ixG (prdOk 1) (prdOk 3)))) (ov (fz (opE ixG (prdOk 1) (ov (fz (opE addG (prdOk 3) (ov (cst (.int 1)))))))))))) (prdOk 4)))
def is_state_p3 : Sls → Option Out := (rtS (calE allG (consO (ov (fz (lcE (enuI (consV (vrd 0) nilV)) (gT (gsCons (gN 3) (gsCons (gN 4) gsNil))) yesB is_state_p3e1 [3, 4]))) nilO)))
def is_state_p : Sls → Option Out := (sqS is_state_p1 (sqS is_state_p2 is_state_p3))
theorem b_is_state_eq : b_is_state = is_state_p := rfl
def turned_p1 : Sls → Option Out := (asgS 3 (lstE (consV (fz (opE addG (ov (fz (opE ixG (prdOk 1) (ov (cst (.int 0)))))) (prdOk 2))) nilV)))
def turned_p2b1 : Sls → Option Out := (asgS 6 (opE ixG (prdOk 3) (ov (fz (unE negG (ov (cst (.int 1))))))))
def turned_p2b2 : Sls → Option Out := (exS (metE 3 appG (consV (fz (calE min2G (consO (ov (fz (calE max2G (consO (ov (fz (opE ixG (prdOk 1) (ov (fz (opE addG (prdOk 4) (ov (cst (.int 1))))))))) (consO (ov (fz (opE subG (prdOk 6) (prdOk 5)))) nilO))))) (consO (prdOk 6) nilO)))) nilV)))
def turned_p2b : Sls → Option Out := (sqS turned_p2b1 turned_p2b2)
def turned_p2 : Sls → Option Out := (forS (enuI (consV (vrd 0) nilV)) (gT (gsCons (gN 4) (gsCons (gN 5) gsNil))) turned_p2b)
def turned_p : Sls → Option Out := (sqS turned_p1 (sqS turned_p2 (mvS 3)))
theorem b_turned_eq : b_turned = turned_p := rfl
def turned_by_p1 : Sls → Option Out := (asgS 3 (calE listG (consO (prdOk 1) nilO)))
def turned_by_p2b : Sls → Option Out := (asgS 3 (callE f_turned (consC (vrd 0) (consC (vrd 3) (consC (vrd 4) nilC)))))
def turned_by_p2 : Sls → Option Out := (forS (lstI (vrd 2)) (gN 4) turned_by_p2b)
def turned_by_p : Sls → Option Out := (sqS turned_by_p1 (sqS turned_by_p2 (mvS 3)))
theorem b_turned_by_eq : b_turned_by = turned_by_p := rfl
def opens_p1b1 : Sls → Option Out := (asgS 6 (opE modG (ov (fz (opE subG (prdOk 4) (prdOk 5)))) (prdOk 0)))
def opens_p1b2 : Sls → Option Out := (ifS (bT (opE gtG (ov (fz (calE min2G (consO (prdOk 6) (consO (ov (fz (opE subG (prdOk 0) (prdOk 6)))) nilO))))) (prdOk 3))) (rtS (rv (cst (.bl false)))) skS)
def opens_p1b : Sls → Option Out := (sqS opens_p1b1 opens_p1b2)
def opens_p1 : Sls → Option Out := (forS (zipSI (consV (vrd 1) (consV (vrd 2) nilV))) (gT (gsCons (gN 4) (gsCons (gN 5) gsNil))) opens_p1b)
def opens_p : Sls → Option Out := (sqS opens_p1 (rtS (rv (cst (.bl true)))))
theorem b_opens_eq : b_opens = opens_p := rfl
def opening_count_p2b : Sls → Option Out := (asgS 3 (opE mulG (prdOk 3) (ov (fz (calE min2G (consO (ov (fz (opE addG (ov (fz (opE mulG (ov (cst (.int 2))) (prdOk 2)))) (ov (cst (.int 1)))))) (consO (prdOk 0) nilO)))))))
def opening_count_p2 : Sls → Option Out := (forS (lstI (vrd 1)) (gN 4) opening_count_p2b)
def opening_count_p : Sls → Option Out := (sqS (asgS 3 (rv (cst (.int 1)))) (sqS opening_count_p2 (mvS 3)))
theorem b_opening_count_eq : b_opening_count = opening_count_p := rfl
def way_to_p2 : Sls → Option Out := (asgS 4 (calE listG (consO (prdOk 1) nilO)))
def way_to_p3 : Sls → Option Out := (asgS 5 (rv (cst (.bl true))))
def way_to_p4b1 : Sls → Option Out := (asgS 7 (opE addG (ov (fz (opE ixG (prdOk 2) (prdOk 6)))) (ov (fz (ifE (trB (prdOk 5)) (calE sumA (consO (ov (fz (slE (prdOk 0) noP (soP (vrd 6))))) nilO)) (rv (cst (.int 0))))))))
def way_to_p4b2t1 : Sls → Option Out := (asgS 8 (opE subG (ov (fz (calE min2G (consO (ov (fz (opE ixG (prdOk 4) (ov (cst (.int 0)))))) (consO (ov (fz (opE subG (prdOk 7) (ov (fz (calE sumA (consO (prdOk 0) nilO))))))) nilO))))) (ov (cst (.int 1)))))
def way_to_p4b2t2 : Sls → Option Out := (exS (metE 3 appG (consV (fz (opE subG (prdOk 8) (ov (fz (opE ixG (prdOk 4) (ov (cst (.int 0)))))))) nilV)))
def way_to_p4b2t3 : Sls → Option Out := (asgS 4 (callE f_turned (consC (vrd 0) (consC (vrd 4) (consC (fz (opE subG (prdOk 8) (ov (fz (opE ixG (prdOk 4) (ov (cst (.int 0)))))))) nilC)))))
def way_to_p4b2t : Sls → Option Out := (sqS way_to_p4b2t1 (sqS way_to_p4b2t2 way_to_p4b2t3))
def way_to_p4b2 : Sls → Option Out := (ifS (bT (opE eqG (prdOk 6) (ov (fz (opE subG (ov (fz (calE lenG (consO (prdOk 2) nilO)))) (ov (cst (.int 1)))))))) way_to_p4b2t skS)
def way_to_p4b3 : Sls → Option Out := (exS (metE 3 appG (consV (fz (opE subG (prdOk 7) (ov (fz (opE ixG (prdOk 4) (ov (cst (.int 0)))))))) nilV)))
def way_to_p4b4 : Sls → Option Out := (asgS 4 (callE f_turned (consC (vrd 0) (consC (vrd 4) (consC (fz (opE subG (prdOk 7) (ov (fz (opE ixG (prdOk 4) (ov (cst (.int 0)))))))) nilC)))))
def way_to_p4b : Sls → Option Out := (sqS way_to_p4b1 (sqS way_to_p4b2 (sqS way_to_p4b3 (sqS way_to_p4b4 (asgS 5 (notE (prdOk 5)))))))
def way_to_p4 : Sls → Option Out := (forS (rng3 (consO (ov (fz (opE subG (ov (fz (calE lenG (consO (prdOk 2) nilO)))) (ov (cst (.int 1)))))) (consO (ov (fz (unE negG (ov (cst (.int 1)))))) (consO (ov (fz (unE negG (ov (cst (.int 1)))))) nilO)))) (gN 6) way_to_p4b)
def way_to_p5c1 : M Bool := (bT (opE neG (prdOk 9) (ov (cst (.int 0)))))
def way_to_p5 : Sls → Option Out := (rtS (lcE (lstI (vrd 3)) (gN 9) way_to_p5c1 (vrd 9) [9]))
def way_to_p : Sls → Option Out := (sqS (asgS 3 (lstE nilV)) (sqS way_to_p2 (sqS way_to_p3 (sqS way_to_p4 way_to_p5))))
theorem b_way_to_eq : b_way_to = way_to_p := rfl
def enough_numbers_p : Sls → Option Out := (rtS (lrgE3 (consO (ov (cst (.int 0))) (consO (prdOk 0) (consO (ov (fz (opE addG (ov (fz (opE mulG (ov (cst (.int 2))) (prdOk 1)))) (ov (cst (.int 1)))))) nilO)))))
theorem b_enough_numbers_eq : b_enough_numbers = enough_numbers_p := rfl
def tries_p2b : Sls → Option Out := (asgS 3 (opE mulG (prdOk 3) (ov (fz (calE lenG (consO (ov (fz (callE f_enough_numbers (consC (vrd 0) (consC (vrd 2) nilC))))) nilO))))))
def tries_p2 : Sls → Option Out := (forS (rng1 (consO (prdOk 1) nilO)) (gN 4) tries_p2b)
def tries_p : Sls → Option Out := (sqS (asgS 3 (rv (cst (.int 1)))) (sqS tries_p2 (mvS 3)))
theorem b_tries_eq : b_tries = tries_p := rfl
def law_different_p2b : Sls → Option Out := (ifS (bT (opE ninG (prdOk 2) (prdOk 1))) (exS (metE 1 appG (consV (vrd 2) nilV))) skS)
def law_different_p2 : Sls → Option Out := (forS (lstI (vrd 0)) (gN 2) law_different_p2b)
def law_different_p : Sls → Option Out := (sqS (asgS 1 (lstE nilV)) (sqS law_different_p2 (mvS 1)))
theorem b_law_different_eq : b_law_different = law_different_p := rfl
def law_clamped_p1 : Sls → Option Out := (asgS 3 (lstE (consV (fz (opE addG (ov (fz (opE ixG (prdOk 1) (ov (cst (.int 0)))))) (prdOk 2))) nilV)))
def law_clamped_p2b1 : Sls → Option Out := (asgS 5 (opE ixG (prdOk 1) (ov (fz (opE addG (prdOk 4) (ov (cst (.int 1))))))))
def law_clamped_p2b2 : Sls → Option Out := (asgS 6 (opE subG (ov (fz (opE ixG (prdOk 3) (prdOk 4)))) (ov (fz (opE ixG (prdOk 0) (prdOk 4))))))
def law_clamped_p2b3 : Sls → Option Out := (exS (metE 3 appG (consV (fz (ifE (bT (opE ltG (prdOk 5) (prdOk 6))) (rv (vrd 6)) (ifE (bT (opE gtG (prdOk 5) (ov (fz (opE ixG (prdOk 3) (prdOk 4)))))) (opE ixG (prdOk 3) (prdOk 4)) (rv (vrd 5))))) nilV)))
def law_clamped_p2b : Sls → Option Out := (sqS law_clamped_p2b1 (sqS law_clamped_p2b2 law_clamped_p2b3))
def law_clamped_p2 : Sls → Option Out := (forS (rng1 (consO (ov (fz (calE lenG (consO (prdOk 0) nilO)))) nilO)) (gN 4) law_clamped_p2b)
def law_clamped_p : Sls → Option Out := (sqS law_clamped_p1 (sqS law_clamped_p2 (mvS 3)))
theorem b_law_clamped_eq : b_law_clamped = law_clamped_p := rfl
def law_state_drawn_p1 : Sls → Option Out := (asgS 2 (lstE (consV (fz (opE subG (ov (fz (callE f_law_draw (plcC 0 (consC (cst (.int 21)) nilC))))) (ov (cst (.int 10))))) nilV)))
def law_state_drawn_p2b : Sls → Option Out := (exS (metE 2 appG (consV (fz (opE subG (ov (fz (opE ixG (prdOk 2) (ov (fz (unE negG (ov (cst (.int 1))))))))) (ov (fz (callE f_law_draw (plcC 0 (consC (fz (opE addG (prdOk 3) (ov (cst (.int 1))))) nilC))))))) nilV)))
def law_state_drawn_p2 : Sls → Option Out := (forS (lstI (vrd 1)) (gN 3) law_state_drawn_p2b)
def law_state_drawn_p : Sls → Option Out := (sqS law_state_drawn_p1 (sqS law_state_drawn_p2 (mvS 2)))
theorem b_law_state_drawn_eq : b_law_state_drawn = law_state_drawn_p := rfl
def law_opens_p1b1 : Sls → Option Out := (asgS 5 (opE modG (ov (fz (calE intG (consO (ov (fz (opE subG (ov (fz (opE ixG (prdOk 1) (prdOk 4)))) (ov (fz (opE ixG (prdOk 2) (prdOk 4))))))) nilO)))) (prdOk 0)))
def law_opens_p1b2 : Sls → Option Out := (ifS (andB (bT (opE gtG (prdOk 5) (prdOk 3))) (bT (opE gtG (ov (fz (opE subG (prdOk 0) (prdOk 5)))) (prdOk 3)))) (rtS (rv (cst (.bl false)))) skS)
def law_opens_p1b : Sls → Option Out := (sqS law_opens_p1b1 law_opens_p1b2)
def law_opens_p1 : Sls → Option Out := (forS (rng1 (consO (ov (fz (calE lenG (consO (prdOk 2) nilO)))) nilO)) (gN 4) law_opens_p1b)
def law_opens_p : Sls → Option Out := (sqS law_opens_p1 (rtS (rv (cst (.bl true)))))
theorem b_law_opens_eq : b_law_opens = law_opens_p := rfl
def law_stepped_p1 : Sls → Option Out := (asgS 3 (calE listG (consO (prdOk 1) nilO)))
def law_stepped_p2b1 : Sls → Option Out := (asgS 5 (ifE (bT (opE gtG (prdOk 2) (ov (cst (.int 0))))) (rv (cst (.int 1))) (unE negG (ov (cst (.int 1))))))
def law_stepped_p2b2 : Sls → Option Out := (ixS 3 (fz (opE addG (ov (fz (opE ixG (prdOk 3) (ov (cst (.int 0)))))) (prdOk 5))) (cst (.int 0)))
def law_stepped_p2b3b : Sls → Option Out := (ifS (orB (bT (opE gtG (ov (fz (opE subG (ov (fz (opE ixG (prdOk 3) (prdOk 6)))) (ov (fz (opE ixG (prdOk 3) (ov (fz (opE addG (prdOk 6) (ov (cst (.int 1)))))))))))) (ov (fz (opE ixG (prdOk 0) (prdOk 6)))))) (bT (opE gtG (ov (fz (opE ixG (prdOk 3) (ov (fz (opE addG (prdOk 6) (ov (cst (.int 1))))))))) (ov (fz (opE ixG (prdOk 3) (prdOk 6))))))) (ixS 3 (fz (opE addG (ov (fz (opE ixG (prdOk 3) (ov (fz (opE addG (prdOk 6) (ov (cst (.int 1))))))))) (prdOk 5))) (fz (opE addG (prdOk 6) (ov (cst (.int 1)))))) skS)
def law_stepped_p2b3 : Sls → Option Out := (forS (rng1 (consO (ov (fz (calE lenG (consO (prdOk 0) nilO)))) nilO)) (gN 6) law_stepped_p2b3b)
def law_stepped_p2b : Sls → Option Out := (sqS law_stepped_p2b1 (sqS law_stepped_p2b2 law_stepped_p2b3))
def law_stepped_p2 : Sls → Option Out := (forS (rng1 (consO (ov (fz (calE max2G (consO (prdOk 2) (consO (ov (fz (unE negG (prdOk 2)))) nilO))))) nilO)) (gN 4) law_stepped_p2b)
def law_stepped_p : Sls → Option Out := (sqS law_stepped_p1 (sqS law_stepped_p2 (mvS 3)))
theorem b_law_stepped_eq : b_law_stepped = law_stepped_p := rfl
def law_p1 : Sls → Option Out := (asgS 1 (callE f_law_pool (consC (vrd 0) nilC)))
def law_p2e1 : M T := (fz (callE f_law_draw (plcC 1 (consC (cst (.int 8)) nilC))))
def law_p2 : Sls → Option Out := (asgS 2 (lcE (rng1 (consO (ov (fz (callE f_law_draw (plcC 1 (consC (cst (.int 4)) nilC))))) nilO)) (gN 4) yesB law_p2e1 [4]))
def law_p3 : Sls → Option Out := (asgS 3 (callE f_law_state_drawn (plcC 1 (consC (vrd 2) nilC))))
def law_p4 : Sls → Option Out := (ifS (bT (opE isnG (ov (fz (callE f_is_state (consC (vrd 2) (consC (fz (calE listG (consO (prdOk 3) nilO))) nilC))))) (ov (cst (.bl true))))) (rtS (rv (cst (.bl false)))) skS)
def law_p5b1 : Sls → Option Out := (exS (callE f_law_next (plcC 1 nilC)))
def law_p5b2 : Sls → Option Out := (asgS 18 (calE listG (consO (prdOk 3) nilO)))
def law_p5b3 : Sls → Option Out := (asgS 19 (callE f_law_draw (plcC 1 (consC (fz (calE lenG (consO (prdOk 18) nilO))) nilC))))
def law_p5b4 : Sls → Option Out := (ixS 18 (fz (opE subG (ov (fz (opE addG (ov (fz (opE ixG (prdOk 18) (prdOk 19)))) (ov (fz (callE f_law_draw (plcC 1 (consC (cst (.int 9)) nilC)))))))) (ov (cst (.int 4))))) (vrd 19))
def law_p5b5e1 : M T := (fz (andE (fz (opE leG (ov (cst (.int 0))) (ov (fz (opE subG (ov (fz (opE ixG (prdOk 18) (prdOk 23)))) (ov (fz (opE ixG (prdOk 18) (ov (fz (opE addG (prdOk 23) (ov (cst (.int 1)))))))))))))) (opE leG (ov (fz (opE subG (ov (fz (opE ixG (prdOk 18) (prdOk 23)))) (ov (fz (opE ixG (prdOk 18) (ov (fz (opE addG (prdOk 23) (ov (cst (.int 1)))))))))))) (ov (fz (opE ixG (prdOk 2) (prdOk 23)))))))
def law_p5b5 : Sls → Option Out := (asgS 20 (calE allG (consO (ov (fz (lcE (rng1 (consO (ov (fz (calE lenG (consO (prdOk 2) nilO)))) nilO)) (gN 23) yesB law_p5b5e1 [23]))) nilO)))
def law_p5b6 : Sls → Option Out := (ifS (notB (trB (ov (fz (callE f_law_same (consC (fz (callE f_is_state (consC (vrd 2) (consC (vrd 18) nilC)))) (consC (vrd 20) nilC))))))) (rtS (rv (cst (.bl false)))) skS)
def law_p5b : Sls → Option Out := (sqS law_p5b1 (sqS law_p5b2 (sqS law_p5b3 (sqS law_p5b4 (sqS law_p5b5 law_p5b6)))))
def law_p5 : Sls → Option Out := (forS (rng1 (consO (ov (cst (.int 3))) nilO)) (gN 4) law_p5b)
def law_p6e1 : M T := (fz (callE f_is_state (consC (vrd 2) (consC (vrd 22) nilC))))
def law_p6 : Sls → Option Out := (ifS (trB (ov (fz (calE anyG (consO (ov (fz (lcE (lstI (fz (lstE (consV (cst .non) (consV (fz (calE tupleG (consO (prdOk 3) nilO))) (consV (fz (slE (prdOk 3) (soP (cst (.int 1))) noP)) (consV (fz (opE addG (prdOk 3) (ov (fz (lstE (consV (cst (.int 0)) nilV)))))) (consV (fz (opE mulG (ov (fz (lstE (consV (cst (.bl true)) nilV)))) (ov (fz (calE lenG (consO (prdOk 3) nilO)))))) (consV (fz (opE mulG (ov (fz (lstE (consV (cst (.str "1")) nilV)))) (ov (fz (calE lenG (consO (prdOk 3) nilO)))))) nilV))))))))) (gN 22) yesB law_p6e1 [22]))) nilO))))) (rtS (rv (cst (.bl false)))) skS)
def law_p7e1 : M T := (fz (opE subG (ov (fz (callE f_law_draw (plcC 1 (consC (cst (.int 31)) nilC))))) (ov (cst (.int 15)))))
def law_p7 : Sls → Option Out := (asgS 5 (lcE (rng1 (consO (ov (fz (callE f_law_draw (plcC 1 (consC (cst (.int 5)) nilC))))) nilO)) (gN 4) yesB law_p7e1 [4]))
def law_p8 : Sls → Option Out := (asgS 6 (calE listG (consO (prdOk 3) nilO)))
def law_p9 : Sls → Option Out := (asgS 7 (calE listG (consO (prdOk 3) nilO)))
def law_p10 : Sls → Option Out := (asgS 8 (opE addG (ov (cst (.int 2))) (ov (fz (callE f_law_draw (plcC 1 (consC (cst (.int 11)) nilC)))))))
def law_p11b1 : Sls → Option Out := (asgS 21 (callE f_turned (consC (vrd 2) (consC (fz (calE listG (consO (prdOk 7) nilO))) (consC (vrd 9) nilC)))))
def law_p11b2e1 : M T := (fz (opE addG (prdOk 24) (prdOk 8)))
def law_p11b2e2 : M T := (fz (opE addG (prdOk 24) (prdOk 8)))
def law_p11b2 : Sls → Option Out := (ifS (orB (notB (trB (ov (fz (callE f_law_same (consC (vrd 21) (consC (fz (callE f_law_stepped (consC (vrd 2) (consC (vrd 7) (consC (vrd 9) nilC))))) nilC))))))) (notB (trB (ov (fz (callE f_law_same (consC (fz (callE f_turned (consC (vrd 2) (consC (fz (lcE (lstI (vrd 7)) (gN 24) yesB law_p11b2e1 [24])) (consC (vrd 9) nilC))))) (consC (fz (lcE (lstI (vrd 21)) (gN 24) yesB law_p11b2e2 [24])) nilC)))))))) (rtS (rv (cst (.bl false)))) skS)
def law_p11b : Sls → Option Out := (sqS law_p11b1 (sqS law_p11b2 (asgS 7 (rv (vrd 21)))))
def law_p11 : Sls → Option Out := (forS (lstI (vrd 5)) (gN 9) law_p11b)
def law_p12 : Sls → Option Out := (ifS (orB (notB (trB (ov (fz (callE f_law_same (consC (fz (callE f_turned_by (consC (vrd 2) (consC (vrd 6) (consC (fz (calE listG (consO (prdOk 5) nilO))) nilC))))) (consC (vrd 7) nilC))))))) (bT (opE neG (prdOk 6) (prdOk 3)))) (rtS (rv (cst (.bl false)))) skS)
def law_p13 : Sls → Option Out := (exS (callE f_law_next (plcC 1 nilC)))
def law_p14e1 : M T := (fz (callE f_law_draw (plcC 1 (consC (vrd 8) nilC))))
def law_p14 : Sls → Option Out := (asgS 10 (lcE (lstI (vrd 3)) (gN 15) yesB law_p14e1 [15]))
def law_p15 : Sls → Option Out := (asgS 11 (callE f_law_draw (plcC 1 (consC (cst (.int 4)) nilC))))
def law_p17bc1 : M Bool := (trB (ov (fz (callE f_law_opens (consC (vrd 8) (consC (fz (lstE (consV (vrd 24) nilV))) (consC (fz (lstE (consV (vrd 13) nilV))) (consC (vrd 11) nilC))))))))
def law_p17b : Sls → Option Out := (asgS 12 (opE mulG (prdOk 12) (ov (fz (calE lenG (consO (ov (fz (lcE (rng1 (consO (prdOk 8) nilO)) (gN 24) law_p17bc1 (vrd 24) [24]))) nilO))))))
def law_p17 : Sls → Option Out := (forS (lstI (vrd 10)) (gN 13) law_p17b)
def law_p18 : Sls → Option Out := (ifS (notB (trB (ov (fz (callE f_law_same (consC (fz (lstE (consV (fz (callE f_opens (consC (vrd 8) (consC (vrd 7) (consC (vrd 10) (consC (vrd 11) nilC)))))) (consV (fz (callE f_opening_count (consC (vrd 8) (consC (vrd 10) (consC (vrd 11) nilC))))) nilV)))) (consC (fz (lstE (consV (fz (callE f_law_opens (consC (vrd 8) (consC (vrd 7) (consC (vrd 10) (consC (vrd 11) nilC)))))) (consV (vrd 12) nilV)))) nilC))))))) (rtS (rv (cst (.bl false)))) skS)
def law_p19 : Sls → Option Out := (asgS 5 (callE f_enough_numbers (consC (vrd 8) (consC (vrd 11) nilC))))
def law_p20e2 : M T := (fz (callE f_law_opens (consC (vrd 8) (consC (fz (lstE (consV (vrd 24) nilV))) (consC (fz (lstE (consV (vrd 9) nilV))) (consC (vrd 11) nilC))))))
def law_p20e1 : M T := (fz (calE anyG (consO (ov (fz (lcE (lstI (vrd 5)) (gN 9) yesB law_p20e2 [9]))) nilO)))
def law_p20 : Sls → Option Out := (ifS (orB (bT (opE neG (prdOk 5) (ov (fz (calE sortedG (consO (ov (fz (callE f_law_different (consC (vrd 5) nilC)))) nilO)))))) (notB (trB (ov (fz (calE allG (consO (ov (fz (lcE (rng1 (consO (prdOk 8) nilO)) (gN 24) yesB law_p20e1 [24]))) nilO))))))) (rtS (rv (cst (.bl false)))) skS)
def law_p21e1 : M T := (fz (opE mulG (prdOk 4) (ov (fz (opE addG (ov (fz (opE mulG (ov (cst (.int 2))) (prdOk 11)))) (ov (cst (.int 1))))))))
def law_p21 : Sls → Option Out := (ifS (orB (bT (opE neG (ov (fz (calE lenG (consO (prdOk 5) nilO)))) (ov (fz (unE negG (ov (fz (opE fdivG (ov (fz (unE negG (prdOk 8)))) (ov (fz (opE addG (ov (fz (opE mulG (ov (cst (.int 2))) (prdOk 11)))) (ov (cst (.int 1)))))))))))))) (notB (trB (ov (fz (callE f_law_same (consC (vrd 5) (consC (fz (lcE (rng1 (consO (ov (fz (calE lenG (consO (prdOk 5) nilO)))) nilO)) (gN 4) yesB law_p21e1 [4])) nilC)))))))) (rtS (rv (cst (.bl false)))) skS)
def law_p23b : Sls → Option Out := (asgS 14 (opE mulG (prdOk 14) (ov (fz (calE lenG (consO (prdOk 5) nilO))))))
def law_p23 : Sls → Option Out := (forS (lstI (vrd 3)) (gN 15) law_p23b)
def law_p24 : Sls → Option Out := (ifS (bT (opE neG (ov (fz (callE f_tries (consC (vrd 8) (consC (fz (calE lenG (consO (prdOk 3) nilO))) (consC (vrd 11) nilC)))))) (prdOk 14))) (rtS (rv (cst (.bl false)))) skS)
def law_p25 : Sls → Option Out := (asgS 16 (callE f_law_state_drawn (plcC 1 (consC (vrd 2) nilC))))
def law_p26 : Sls → Option Out := (asgS 17 (callE f_way_to (consC (vrd 2) (consC (fz (calE listG (consO (prdOk 3) nilO))) (consC (fz (calE listG (consO (prdOk 16) nilO))) nilC)))))
def law_p27 : Sls → Option Out := (ifS (orB (bT (opE inG (ov (cst (.int 0))) (prdOk 17))) (orB (bT (opE gtG (ov (fz (calE lenG (consO (prdOk 17) nilO)))) (ov (fz (opE addG (ov (fz (calE lenG (consO (prdOk 3) nilO)))) (ov (cst (.int 1)))))))) (bT (opE neG (ov (fz (callE f_law_clamped (consC (vrd 2) (consC (vrd 3) (consC (cst (.int 0)) nilC)))))) (prdOk 3))))) (rtS (rv (cst (.bl false)))) skS)
def law_p28 : Sls → Option Out := (asgS 7 (calE listG (consO (prdOk 3) nilO)))
def law_p29b : Sls → Option Out := (asgS 7 (callE f_law_clamped (consC (vrd 2) (consC (vrd 7) (consC (vrd 9) nilC)))))
def law_p29 : Sls → Option Out := (forS (lstI (vrd 17)) (gN 9) law_p29b)
def law_p30 : Sls → Option Out := (rtS (opE eqG (prdOk 7) (prdOk 16)))
def law_p : Sls → Option Out := (sqS law_p1 (sqS law_p2 (sqS law_p3 (sqS law_p4 (sqS law_p5 (sqS law_p6 (sqS law_p7 (sqS law_p8 (sqS law_p9 (sqS law_p10 (sqS law_p11 (sqS law_p12 (sqS law_p13 (sqS law_p14 (sqS law_p15 (sqS (asgS 12 (rv (cst (.int 1)))) (sqS law_p17 (sqS law_p18 (sqS law_p19 (sqS law_p20 (sqS law_p21 (sqS (asgS 14 (rv (cst (.int 1)))) (sqS law_p23 (sqS law_p24 (sqS law_p25 (sqS law_p26 (sqS law_p27 (sqS law_p28 (sqS law_p29 law_p30)))))))))))))))))))))))))))))
theorem b_law_eq : b_law = law_p := rfl

abbrev PW : PySem.Program := PySem.Challenge.pw_lockwork_k67_whole_wheels_that_turn_one
def top (i : Nat) : Stmt := PW.main.body.getD i (.Pass ⟨0, 0, 0, 0⟩)
structure Bl (mg : Str → Option Value) : Prop where
  all_ : mg "all" = none
  any_ : mg "any" = none
  bool_ : mg "bool" = none
  dict_ : mg "dict" = none
  enumerate_ : mg "enumerate" = none
  int_ : mg "int" = none
  isinstance_ : mg "isinstance" = none
  len_ : mg "len" = none
  list_ : mg "list" = none
  max_ : mg "max" = none
  min_ : mg "min" = none
  range_ : mg "range" = none
  sorted_ : mg "sorted" = none
  str_ : mg "str" = none
  sum_ : mg "sum" = none
  tuple_ : mg "tuple" = none
  zip_ : mg "zip" = none
abbrev FnP (K : PySem.W.Frag) (x : Str) (st : Stmt) (f : Addr) (fd : FuncData) : Prop := FunD K x x (defArgs st) (defBody st) (defScope st) [] [] f fd
variable {P : Program} {w : World} {K : PySem.W.Frag} {mg : Str → Option Value} {base : Heap}
abbrev s_is_state : Stmt := top 1
theorem sc_is_state : FnScope ["plays", "value", "place", "at", "play"] ["plays", "value"] (defScope s_is_state) := ⟨rfl, rfl, rfl, by decide +kernel, rfl, by decide +kernel, by decide +kernel⟩
theorem ok_is_state {f : Addr} {fd : FuncData} (F : FnP K "is_state" s_is_state f fd) (hm : mg "is_state" = some (.ref f)) (B : Bl mg)  : Fd P w K mg base 1 "is_state" 2 f_is_state := by
  refine fd_of (k := 0) (n := 2) (m := 3) (g := b_is_state) F sc_is_state hm (FunD.bindsN F fun _ _ _ _ _ _ us hl => match us, hl with | [_, _], _ => rfl) rfl rfl fun cdv A outer s H E hr => ?_
  exact ⟨_, (l_cons (st_if (EW.bb (w_or (b_not (b_tru (EE.oo (e_isi (ty := "list") (by decide) (by rfl) B.isinstance_ (by rfl) B.list_ (by decide +kernel) (o_var 1))) (fun _ => rfl))) (w_or1 (b_cmp (op_neD hr.units) s_ne (EE.oo (e_callB s_len call_lenG (by rfl) B.len_ (by decide +kernel) (ao_cons (o_var 1) ao_nil))) (EE.oo (e_op op_addG s_add (EE.oo (e_callB s_len call_lenG (by rfl) B.len_ (by decide +kernel) (ao_cons (o_var 0) ao_nil))) (EV.o v_int))) (nomark _))))) (l_one (st_ret (EV.ee v_bl))) l_nil)
    (l_cons (st_if (b_not (b_tru (EE.oo (e_callB s_all (cr_all rfl) (by rfl) B.all_ (by decide +kernel) (ao_cons (EE.oo (x_lc [2] rfl sc_is_state.nd (i_list (v_var 1)) (blkOk_by (own := [("place", 2)]) (by kernel_rfl)) (fun _ _ _ _ _ => ⟨_, (g_name (i := 2) sc_is_state.nd rfl (by first | exact .inl rfl | exact .inr rfl))⟩) (fun _ _ _ _ _ => ⟨_, t_nil⟩) (fun _ _ _ _ _ => ⟨_, (EE.v (e_and (EE.v (e_isi (ty := "int") (by decide) (by rfl) B.isinstance_ (by rfl) B.int_ (by decide +kernel) (o_var 2))) (e_one (e_not (EE.oo (e_isi (ty := "bool") (by decide) (by rfl) B.isinstance_ (by rfl) B.bool_ (by decide +kernel) (o_var 2)))))))⟩) (by decide))) ao_nil))) (fun _ => rfl))) (l_one (st_ret (EV.ee v_bl))) l_nil)
    (l_one (st_ret (e_callB s_all (cr_all rfl) (by rfl) B.all_ (by decide +kernel) (ao_cons (EE.oo (x_lc [3, 4] rfl sc_is_state.nd (i_enum (by rfl) B.enumerate_ (av_cons (v_var 0) av_nil)) (blkOk_by (own := [("at", 3), ("play", 4)]) (by kernel_rfl)) (fun _ _ _ _ _ => ⟨_, (g_tup rfl (gs_cons (g_name (i := 3) sc_is_state.nd rfl (by first | exact .inl rfl | exact .inr rfl)) (gs_cons (g_name (i := 4) sc_is_state.nd rfl (by first | exact .inl rfl | exact .inr rfl)) gs_nil)))⟩) (fun _ _ _ _ _ => ⟨_, t_nil⟩) (fun _ _ _ _ _ => ⟨_, (EE.v (e_chain op_le s_le op_le s_le (EV.o v_int) (EE.oo (e_op op_sub s_sub (EE.oo (e_ix (ix_G (hu1 hr)) s_ix (o_var 1) (o_var 3) (fun _ _ => rfl))) (EE.oo (e_ix (ix_G (hu1 hr)) s_ix (o_var 1) (EE.oo (e_op op_addG s_add (o_var 3) (EV.o v_int))) (fun _ _ => rfl))))) (o_var 4)))⟩) (by decide))) ao_nil))))))⟩
abbrev s_turned : Stmt := top 2
theorem sc_turned : FnScope ["plays", "state", "number", "found", "at", "play", "before"] ["plays", "state", "number"] (defScope s_turned) := ⟨rfl, rfl, rfl, by decide +kernel, rfl, by decide +kernel, by decide +kernel⟩
theorem ok_turned {f : Addr} {fd : FuncData} (F : FnP K "turned" s_turned f fd) (hm : mg "turned" = some (.ref f)) (B : Bl mg)  : Fd P w K mg base 1 "turned" 3 f_turned := by
  refine fd_of (k := 0) (n := 3) (m := 4) (g := b_turned) F sc_turned hm (FunD.bindsN F fun _ _ _ _ _ _ us hl => match us, hl with | [_, _, _], _ => rfl) rfl rfl fun cdv A outer s H E hr => ?_
  exact ⟨_, (l_cons (st_set (i := 3) sc_turned.nd rfl (by first | exact .inl rfl | exact .inr rfl) (e_lst (av_cons (EE.v (e_op op_addG s_add (EE.oo (e_ix (ix_G (hu1 hr)) s_ix (o_var 1) (EV.o v_int) (fun _ _ => rfl))) (o_var 2))) av_nil)))
    (l_cons (st_for PassesOwn.never rfl (i_enum (by rfl) B.enumerate_ (av_cons (v_var 0) av_nil)) (g_tup rfl (gs_cons (g_name (i := 4) sc_turned.nd rfl (by first | exact .inl rfl | exact .inr rfl)) (gs_cons (g_name (i := 5) sc_turned.nd rfl (by first | exact .inl rfl | exact .inr rfl)) gs_nil))) (l_cons (st_set (i := 6) sc_turned.nd rfl (by first | exact .inl rfl | exact .inr rfl) (e_ix (ix_G (hu1 hr)) s_ix (o_var 3) (EE.oo (e_un un_neg s_neg (EV.o v_int))) (fun _ _ => rfl)))
    (l_one (st_expr (e_met 3 PySem.F.slot_list_append PySem.F.type_list_append mt_append s_app (av_cons (EE.v (e_callB s_min2 (call_min2 rfl) (by rfl) B.min_ (by decide +kernel) (ao_cons (EE.oo (e_callB s_max2 (call_max2 rfl) (by rfl) B.max_ (by decide +kernel) (ao_cons (EE.oo (e_ix (ix_G (hu1 hr)) s_ix (o_var 1) (EE.oo (e_op op_addG s_add (o_var 4) (EV.o v_int))) (fun _ _ => rfl))) (ao_cons (EE.oo (e_op op_sub s_sub (o_var 6) (o_var 5))) ao_nil)))) (ao_cons (o_var 6) ao_nil)))) av_nil))))))
    (l_one (st_mv 3))))⟩
abbrev s_turned_by : Stmt := top 3
theorem sc_turned_by : FnScope ["plays", "state", "numbers", "found", "number"] ["plays", "state", "numbers"] (defScope s_turned_by) := ⟨rfl, rfl, rfl, by decide +kernel, rfl, by decide +kernel, by decide +kernel⟩
theorem ok_turned_by {f : Addr} {fd : FuncData} (F : FnP K "turned_by" s_turned_by f fd) (hm : mg "turned_by" = some (.ref f)) (B : Bl mg) (F_turned : Fd P w K mg base 1 "turned" 3 f_turned) : Fd P w K mg base 2 "turned_by" 3 f_turned_by := by
  refine fd_of (k := 1) (n := 3) (m := 2) (g := b_turned_by) F sc_turned_by hm (FunD.bindsN F fun _ _ _ _ _ _ us hl => match us, hl with | [_, _, _], _ => rfl) rfl rfl fun cdv A outer s H E hr => ?_
  exact ⟨_, (l_cons (st_set (i := 3) sc_turned_by.nd rfl (by first | exact .inl rfl | exact .inr rfl) (e_callT s_list call_list_of (by rfl) B.list_ (by decide +kernel) (ao_cons (o_var 1) ao_nil)))
    (l_cons (st_for PassesOwn.never rfl (i_list (v_var 2)) (g_name (i := 4) sc_turned_by.nd rfl (by first | exact .inl rfl | exact .inr rfl)) (l_one (st_set (i := 3) sc_turned_by.nd rfl (by first | exact .inl rfl | exact .inr rfl) (e_call F_turned (hr.mono (by decide)) (by rfl) (lenC_cons (lenC_cons (lenC_cons lenC_nil))) (ac_cons (v_var 0) (ac_cons (v_var 3) (ac_cons (v_var 4) ac_nil)))))))
    (l_one (st_mv 3))))⟩
abbrev s_opens : Stmt := top 4
theorem sc_opens : FnScope ["marks", "state", "gates", "tolerance", "place", "gate", "away"] ["marks", "state", "gates", "tolerance"] (defScope s_opens) := ⟨rfl, rfl, rfl, by decide +kernel, rfl, by decide +kernel, by decide +kernel⟩
theorem ok_opens {f : Addr} {fd : FuncData} (F : FnP K "opens" s_opens f fd) (hm : mg "opens" = some (.ref f)) (B : Bl mg)  : Fd P w K mg base 1 "opens" 4 f_opens := by
  refine fd_of (k := 0) (n := 4) (m := 3) (g := b_opens) F sc_opens hm (FunD.bindsN F fun _ _ _ _ _ _ us hl => match us, hl with | [_, _, _, _], _ => rfl) rfl rfl fun cdv A outer s H E hr => ?_
  exact ⟨_, (l_cons (st_for PassesOwn.never rfl (i_zipS (by rfl) B.zip_ (av_cons (v_var 1) (av_cons (v_var 2) av_nil))) (g_tup rfl (gs_cons (g_name (i := 4) sc_opens.nd rfl (by first | exact .inl rfl | exact .inr rfl)) (gs_cons (g_name (i := 5) sc_opens.nd rfl (by first | exact .inl rfl | exact .inr rfl)) gs_nil))) (l_cons (st_set (i := 6) sc_opens.nd rfl (by first | exact .inl rfl | exact .inr rfl) (e_op op_modN s_mod (EE.oo (e_op op_sub s_sub (o_var 4) (o_var 5))) (o_var 0)))
    (l_one (st_if (b_cmp op_gt s_gt (EE.oo (e_callB s_min2 (call_min2 rfl) (by rfl) B.min_ (by decide +kernel) (ao_cons (o_var 6) (ao_cons (EE.oo (e_op op_sub s_sub (o_var 0) (o_var 6))) ao_nil)))) (o_var 3) (nomark _)) (l_one (st_ret (EV.ee v_bl))) l_nil))))
    (l_one (st_ret (EV.ee v_bl))))⟩
abbrev s_opening_count : Stmt := top 5
theorem sc_opening_count : FnScope ["marks", "gates", "tolerance", "found", "_"] ["marks", "gates", "tolerance"] (defScope s_opening_count) := ⟨rfl, rfl, rfl, by decide +kernel, rfl, by decide +kernel, by decide +kernel⟩
theorem ok_opening_count {f : Addr} {fd : FuncData} (F : FnP K "opening_count" s_opening_count f fd) (hm : mg "opening_count" = some (.ref f)) (B : Bl mg)  : Fd P w K mg base 1 "opening_count" 3 f_opening_count := by
  refine fd_of (k := 0) (n := 3) (m := 2) (g := b_opening_count) F sc_opening_count hm (FunD.bindsN F fun _ _ _ _ _ _ us hl => match us, hl with | [_, _, _], _ => rfl) rfl rfl fun cdv A outer s H E hr => ?_
  exact ⟨_, (l_cons (st_set (i := 3) sc_opening_count.nd rfl (by first | exact .inl rfl | exact .inr rfl) (EV.ee v_int))
    (l_cons (st_for PassesOwn.never rfl (i_list (v_var 1)) (g_name (i := 4) sc_opening_count.nd rfl (by first | exact .inl rfl | exact .inr rfl)) (l_one (st_set (i := 3) sc_opening_count.nd rfl (by first | exact .inl rfl | exact .inr rfl) (e_op op_mulG s_mul (o_var 3) (EE.oo (e_callB s_min2 (call_min2 rfl) (by rfl) B.min_ (by decide +kernel) (ao_cons (EE.oo (e_op op_addG s_add (EE.oo (e_op op_mulG s_mul (EV.o v_int) (o_var 2))) (EV.o v_int))) (ao_cons (o_var 0) ao_nil))))))))
    (l_one (st_mv 3))))⟩
abbrev s_way_to : Stmt := top 6
theorem sc_way_to : FnScope ["plays", "state", "goal", "found", "here", "up", "at", "first", "low", "number"] ["plays", "state", "goal"] (defScope s_way_to) := ⟨rfl, rfl, rfl, by decide +kernel, rfl, by decide +kernel, by decide +kernel⟩
theorem ok_way_to {f : Addr} {fd : FuncData} (F : FnP K "way_to" s_way_to f fd) (hm : mg "way_to" = some (.ref f)) (B : Bl mg) (F_turned : Fd P w K mg base 1 "turned" 3 f_turned) : Fd P w K mg base 2 "way_to" 3 f_way_to := by
  refine fd_of (k := 1) (n := 3) (m := 7) (g := b_way_to) F sc_way_to hm (FunD.bindsN F fun _ _ _ _ _ _ us hl => match us, hl with | [_, _, _], _ => rfl) rfl rfl fun cdv A outer s H E hr => ?_
  exact ⟨_, (l_cons (st_set (i := 3) sc_way_to.nd rfl (by first | exact .inl rfl | exact .inr rfl) (e_lst av_nil))
    (l_cons (st_set (i := 4) sc_way_to.nd rfl (by first | exact .inl rfl | exact .inr rfl) (e_callT s_list call_list_of (by rfl) B.list_ (by decide +kernel) (ao_cons (o_var 1) ao_nil)))
    (l_cons (st_set (i := 5) sc_way_to.nd rfl (by first | exact .inl rfl | exact .inr rfl) (EV.ee v_bl))
    (l_cons (st_for PassesOwn.never rfl (i_rng3 (by rfl) B.range_ (ao_cons (EE.oo (e_op op_sub s_sub (EE.oo (e_callB s_len call_lenG (by rfl) B.len_ (by decide +kernel) (ao_cons (o_var 2) ao_nil))) (EV.o v_int))) (ao_cons (EE.oo (e_un un_neg s_neg (EV.o v_int))) (ao_cons (EE.oo (e_un un_neg s_neg (EV.o v_int))) ao_nil)))) (g_name (i := 6) sc_way_to.nd rfl (by first | exact .inl rfl | exact .inr rfl)) (l_cons (st_set (i := 7) sc_way_to.nd rfl (by first | exact .inl rfl | exact .inr rfl) (e_op op_addG s_add (EE.oo (e_ix (ix_G (hu1 hr)) s_ix (o_var 2) (o_var 6) (fun _ _ => rfl))) (EE.oo (e_if (b_tru (o_var 5) (fun _ => rfl)) (e_callB s_sumA (cr_sumA rfl) (by rfl) B.sum_ (by decide +kernel) (ao_cons (EE.oo (e_sl (o_var 0) p_no (p_so (v_var 6)))) ao_nil)) (EV.ee v_int)))))
    (l_cons (st_if (b_cmp (op_eqD hr.units) s_eq (o_var 6) (EE.oo (e_op op_sub s_sub (EE.oo (e_callB s_len call_lenG (by rfl) B.len_ (by decide +kernel) (ao_cons (o_var 2) ao_nil))) (EV.o v_int))) (nomark _)) (l_cons (st_set (i := 8) sc_way_to.nd rfl (by first | exact .inl rfl | exact .inr rfl) (e_op op_sub s_sub (EE.oo (e_callB s_min2 (call_min2 rfl) (by rfl) B.min_ (by decide +kernel) (ao_cons (EE.oo (e_ix (ix_G (hu1 hr)) s_ix (o_var 4) (EV.o v_int) (fun _ _ => rfl))) (ao_cons (EE.oo (e_op op_sub s_sub (o_var 7) (EE.oo (e_callB s_sumA (cr_sumA rfl) (by rfl) B.sum_ (by decide +kernel) (ao_cons (o_var 0) ao_nil))))) ao_nil)))) (EV.o v_int)))
    (l_cons (st_expr (e_met 3 PySem.F.slot_list_append PySem.F.type_list_append mt_append s_app (av_cons (EE.v (e_op op_sub s_sub (o_var 8) (EE.oo (e_ix (ix_G (hu1 hr)) s_ix (o_var 4) (EV.o v_int) (fun _ _ => rfl))))) av_nil)))
    (l_one (st_set (i := 4) sc_way_to.nd rfl (by first | exact .inl rfl | exact .inr rfl) (e_call F_turned (hr.mono (by decide)) (by rfl) (lenC_cons (lenC_cons (lenC_cons lenC_nil))) (ac_cons (v_var 0) (ac_cons (v_var 4) (ac_cons (EE.v (e_op op_sub s_sub (o_var 8) (EE.oo (e_ix (ix_G (hu1 hr)) s_ix (o_var 4) (EV.o v_int) (fun _ _ => rfl))))) ac_nil)))))))) l_nil)
    (l_cons (st_expr (e_met 3 PySem.F.slot_list_append PySem.F.type_list_append mt_append s_app (av_cons (EE.v (e_op op_sub s_sub (o_var 7) (EE.oo (e_ix (ix_G (hu1 hr)) s_ix (o_var 4) (EV.o v_int) (fun _ _ => rfl))))) av_nil)))
    (l_cons (st_set (i := 4) sc_way_to.nd rfl (by first | exact .inl rfl | exact .inr rfl) (e_call F_turned (hr.mono (by decide)) (by rfl) (lenC_cons (lenC_cons (lenC_cons lenC_nil))) (ac_cons (v_var 0) (ac_cons (v_var 4) (ac_cons (EE.v (e_op op_sub s_sub (o_var 7) (EE.oo (e_ix (ix_G (hu1 hr)) s_ix (o_var 4) (EV.o v_int) (fun _ _ => rfl))))) ac_nil)))))
    (l_one (st_set (i := 5) sc_way_to.nd rfl (by first | exact .inl rfl | exact .inr rfl) (e_not (o_var 5)))))))))
    (l_one (st_ret (x_lc [9] rfl sc_way_to.nd (i_list (v_var 3)) (blkOk_by (own := [("number", 9)]) (by kernel_rfl)) (fun _ _ _ _ _ => ⟨_, (g_name (i := 9) sc_way_to.nd rfl (by first | exact .inl rfl | exact .inr rfl))⟩) (fun _ _ _ _ _ => ⟨_, (t_one (b_cmp (op_neD hr.units) s_ne (o_var 9) (EV.o v_int) (nomark _)))⟩) (fun _ _ _ _ _ => ⟨_, (v_var 9)⟩) (by decide))))))))⟩
abbrev s_enough_numbers : Stmt := top 7
theorem sc_enough_numbers : FnScope ["marks", "tolerance"] ["marks", "tolerance"] (defScope s_enough_numbers) := ⟨rfl, rfl, rfl, by decide +kernel, rfl, by decide +kernel, by decide +kernel⟩
theorem ok_enough_numbers {f : Addr} {fd : FuncData} (F : FnP K "enough_numbers" s_enough_numbers f fd) (hm : mg "enough_numbers" = some (.ref f)) (B : Bl mg)  : Fd P w K mg base 1 "enough_numbers" 2 f_enough_numbers := by
  refine fd_of (k := 0) (n := 2) (m := 0) (g := b_enough_numbers) F sc_enough_numbers hm (FunD.bindsN F fun _ _ _ _ _ _ us hl => match us, hl with | [_, _], _ => rfl) rfl rfl fun cdv A outer s H E hr => ?_
  exact ⟨_, (l_one (st_ret (e_listRg3 rfl (by rfl) B.list_ (by rfl) B.range_ (ao_cons (EV.o v_int) (ao_cons (o_var 0) (ao_cons (EE.oo (e_op op_addG s_add (EE.oo (e_op op_mulG s_mul (EV.o v_int) (o_var 1))) (EV.o v_int))) ao_nil))))))⟩
abbrev s_tries : Stmt := top 8
theorem sc_tries : FnScope ["marks", "wheels", "tolerance", "found", "_"] ["marks", "wheels", "tolerance"] (defScope s_tries) := ⟨rfl, rfl, rfl, by decide +kernel, rfl, by decide +kernel, by decide +kernel⟩
theorem ok_tries {f : Addr} {fd : FuncData} (F : FnP K "tries" s_tries f fd) (hm : mg "tries" = some (.ref f)) (B : Bl mg) (F_enough_numbers : Fd P w K mg base 1 "enough_numbers" 2 f_enough_numbers) : Fd P w K mg base 2 "tries" 3 f_tries := by
  refine fd_of (k := 1) (n := 3) (m := 2) (g := b_tries) F sc_tries hm (FunD.bindsN F fun _ _ _ _ _ _ us hl => match us, hl with | [_, _, _], _ => rfl) rfl rfl fun cdv A outer s H E hr => ?_
  exact ⟨_, (l_cons (st_set (i := 3) sc_tries.nd rfl (by first | exact .inl rfl | exact .inr rfl) (EV.ee v_int))
    (l_cons (st_for PassesOwn.never rfl (i_rng1 (by rfl) B.range_ (ao_cons (o_var 1) ao_nil)) (g_name (i := 4) sc_tries.nd rfl (by first | exact .inl rfl | exact .inr rfl)) (l_one (st_set (i := 3) sc_tries.nd rfl (by first | exact .inl rfl | exact .inr rfl) (e_op op_mulG s_mul (o_var 3) (EE.oo (e_callB s_len call_lenG (by rfl) B.len_ (by decide +kernel) (ao_cons (EE.oo (e_call F_enough_numbers (hr.mono (by decide)) (by rfl) (lenC_cons (lenC_cons lenC_nil)) (ac_cons (v_var 0) (ac_cons (v_var 2) ac_nil)))) ao_nil)))))))
    (l_one (st_mv 3))))⟩
abbrev s_law_mixed : Stmt := top 10
theorem sc_law_mixed : FnScope ["number", "place", "first", "second", "third"] ["number", "place"] (defScope s_law_mixed) := ⟨rfl, rfl, rfl, by decide +kernel, rfl, by decide +kernel, by decide +kernel⟩
theorem ok_law_mixed {f : Addr} {fd : FuncData} (F : FnP K "_law_mixed" s_law_mixed f fd) (hm : mg "_law_mixed" = some (.ref f)) (B : Bl mg)  : Fd P w K mg base 1 "_law_mixed" 2 f_law_mixed := by
  refine fd_of (k := 0) (n := 2) (m := 3) (g := b_law_mixed) F sc_law_mixed hm (FunD.bindsN F fun _ _ _ _ _ _ us hl => match us, hl with | [_, _], _ => rfl) rfl rfl fun cdv A outer s H E hr => ?_
  exact ⟨_, (l_cons (st_set (i := 2) sc_law_mixed.nd rfl (by first | exact .inl rfl | exact .inr rfl) (e_op op_modN s_mod (EE.oo (e_callT s_int1 call_int1 (by rfl) B.int_ (by decide +kernel) (ao_cons (EE.oo (e_op op_addG s_add (EE.oo (e_op op_addG s_add (EE.oo (e_op op_mulG s_mul (o_var 0) (EV.o v_int))) (EE.oo (e_op op_mulG s_mul (o_var 1) (EV.o v_int))))) (EV.o v_int))) ao_nil))) (EV.o v_int)))
    (l_cons (st_set (i := 3) sc_law_mixed.nd rfl (by first | exact .inl rfl | exact .inr rfl) (e_op op_modN s_mod (EE.oo (e_callT s_int1 call_int1 (by rfl) B.int_ (by decide +kernel) (ao_cons (EE.oo (e_op op_addG s_add (EE.oo (e_op op_addG s_add (EE.oo (e_op op_mulG s_mul (o_var 2) (o_var 2))) (EE.oo (e_op op_mulG s_mul (EV.o v_int) (o_var 2))))) (o_var 1))) ao_nil))) (EV.o v_int)))
    (l_cons (st_set (i := 4) sc_law_mixed.nd rfl (by first | exact .inl rfl | exact .inr rfl) (e_op op_modN s_mod (EE.oo (e_callT s_int1 call_int1 (by rfl) B.int_ (by decide +kernel) (ao_cons (EE.oo (e_op op_addG s_add (EE.oo (e_op op_mulG s_mul (o_var 3) (o_var 3))) (o_var 2))) ao_nil))) (EV.o v_int)))
    (l_one (st_ret (e_op op_addG s_add (EE.oo (e_op op_mulG s_mul (o_var 3) (EV.o v_int))) (o_var 4)))))))⟩
abbrev s_law_rest : Stmt := top 11
theorem sc_law_rest : FnScope ["script", "place", "fills", "number"] ["script", "place", "fills"] (defScope s_law_rest) := ⟨rfl, rfl, rfl, by decide +kernel, rfl, by decide +kernel, by decide +kernel⟩
theorem ok_law_rest {f : Addr} {fd : FuncData} (F : FnP K "_law_rest" s_law_rest f fd) (hm : mg "_law_rest" = some (.ref f)) (B : Bl mg) (F_law_mixed : Fd P w K mg base 1 "_law_mixed" 2 f_law_mixed) : Fd P w K mg base 2 "_law_rest" 3 f_law_rest := by
  refine fd_of (k := 1) (n := 3) (m := 1) (g := b_law_rest) F sc_law_rest hm (FunD.bindsN F fun _ _ _ _ _ _ us hl => match us, hl with | [_, _, _], _ => rfl) rfl rfl fun cdv A outer s H E hr => ?_
  exact ⟨_, (l_cons (st_set (i := 3) sc_law_rest.nd rfl (by first | exact .inl rfl | exact .inr rfl) (EV.ee v_int))
    (l_cons (st_if (b_cmp op_gt s_gt (EE.oo (e_callB s_len call_lenG (by rfl) B.len_ (by decide +kernel) (ao_cons (o_var 0) ao_nil))) (EV.o v_int) (nomark _)) (l_one (st_set (i := 3) sc_law_rest.nd rfl (by first | exact .inl rfl | exact .inr rfl) (e_callT s_int1 call_int1 (by rfl) B.int_ (by decide +kernel) (ao_cons (EE.oo (e_ix (ix_G (hu1 hr)) s_ix (o_var 0) (EE.oo (e_op op_modN s_mod (EE.oo (e_callT s_int1 call_int1 (by rfl) B.int_ (by decide +kernel) (ao_cons (o_var 1) ao_nil))) (EE.oo (e_callB s_len call_lenG (by rfl) B.len_ (by decide +kernel) (ao_cons (o_var 0) ao_nil))))) (fun _ _ => rfl))) ao_nil)))) l_nil)
    (l_cons (st_if (b_cmp (op_ltG hr.units0) s_lt (o_var 3) (EV.o v_int) (nomark _)) (l_one (st_set (i := 3) sc_law_rest.nd rfl (by first | exact .inl rfl | exact .inr rfl) (e_op op_sub s_sub (EV.o v_int) (EE.oo (e_op op_mulG s_mul (EV.o v_int) (o_var 3)))))) l_nil)
    (l_cons (st_if (EW.bb (w_and (b_cmp (op_eqD hr.units) s_eq (o_var 2) (EV.o v_int) (nomark _)) (w_and (b_cmp (op_ltG hr.units0) s_lt (o_var 1) (EE.oo (e_callB s_len call_lenG (by rfl) B.len_ (by decide +kernel) (ao_cons (o_var 0) ao_nil))) (nomark _)) (w_and1 (b_cmp op_ge s_ge (o_var 3) (EE.oo (e_op op_pow s_pow (EV.o v_int) (EV.o v_int))) (nomark _)))))) (l_one (st_ret (e_op op_sub s_sub (o_var 3) (EE.oo (e_op op_pow s_pow (EV.o v_int) (EV.o v_int)))))) l_nil)
    (l_one (st_ret (e_call F_law_mixed (hr.mono (by decide)) (by rfl) (lenC_cons (lenC_cons lenC_nil)) (ac_cons (EE.v (e_op op_addG s_add (o_var 3) (EE.oo (e_op op_mulG s_mul (o_var 2) (EV.o v_int))))) (ac_cons (v_var 1) ac_nil)))))))))⟩
abbrev s_law_pool : Stmt := top 12
theorem sc_law_pool : FnScope ["script"] ["script"] (defScope s_law_pool) := ⟨rfl, rfl, rfl, by decide +kernel, rfl, by decide +kernel, by decide +kernel⟩
theorem ok_law_pool {f : Addr} {fd : FuncData} (F : FnP K "_law_pool" s_law_pool f fd) (hm : mg "_law_pool" = some (.ref f)) (B : Bl mg) (F_law_rest : Fd P w K mg base 2 "_law_rest" 3 f_law_rest) : Fd P w K mg base 3 "_law_pool" 1 f_law_pool := by
  refine fd_of (k := 2) (n := 1) (m := 0) (g := b_law_pool) F sc_law_pool hm (FunD.bindsN F fun _ _ _ _ _ _ us hl => match us, hl with | [_], _ => rfl) rfl rfl fun cdv A outer s H E hr => ?_
  exact ⟨_, (l_one (st_ret (e_lst (av_cons (v_var 0) (av_cons v_int (av_cons (EE.v (e_call F_law_rest (hr.mono (by decide)) (by rfl) (lenC_cons (lenC_cons (lenC_cons lenC_nil))) (ac_cons (v_var 0) (ac_cons v_int (ac_cons v_int ac_nil))))) (av_cons v_int av_nil)))))))⟩
abbrev s_law_next : Stmt := top 13
theorem sc_law_next : FnScope ["pool"] ["pool"] (defScope s_law_next) := ⟨rfl, rfl, rfl, by decide +kernel, rfl, by decide +kernel, by decide +kernel⟩
theorem ok_law_next {f : Addr} {fd : FuncData} (F : FnP K "_law_next" s_law_next f fd) (hm : mg "_law_next" = some (.ref f)) (B : Bl mg) (F_law_rest : Fd P w K mg base 2 "_law_rest" 3 f_law_rest) : Fd P w K mg base 3 "_law_next" 1 f_law_next := by
  refine fd_of (k := 2) (n := 1) (m := 0) (g := b_law_next) F sc_law_next hm (FunD.bindsN F fun _ _ _ _ _ _ us hl => match us, hl with | [_], _ => rfl) rfl rfl fun cdv A outer s H E hr => ?_
  exact ⟨_, (l_cons (st_ix 0 (hu1 hr) (EE.v (e_op op_addG s_add (EE.oo (e_ix (ix_G (hu1 hr)) s_ix (o_var 0) (EV.o v_int) (fun _ _ => rfl))) (EV.o v_int))) v_int)
    (l_cons (st_ix 0 (hu1 hr) (EE.v (e_call F_law_rest (hr.mono (by decide)) (by rfl) (lenC_cons (lenC_cons (lenC_cons lenC_nil))) (ac_cons (EE.v (e_ix (ix_G (hu1 hr)) s_ix (o_var 0) (EV.o v_int) (fun _ _ => rfl))) (ac_cons (EE.v (e_ix (ix_G (hu1 hr)) s_ix (o_var 0) (EV.o v_int) (fun _ _ => rfl))) (ac_cons v_int ac_nil))))) v_int)
    (l_one (st_ix 0 (hu1 hr) v_int v_int))))⟩
abbrev s_law_draw : Stmt := top 14
theorem sc_law_draw : FnScope ["pool", "limit", "value"] ["pool", "limit"] (defScope s_law_draw) := ⟨rfl, rfl, rfl, by decide +kernel, rfl, by decide +kernel, by decide +kernel⟩
theorem ok_law_draw {f : Addr} {fd : FuncData} (F : FnP K "_law_draw" s_law_draw f fd) (hm : mg "_law_draw" = some (.ref f)) (B : Bl mg) (F_law_rest : Fd P w K mg base 2 "_law_rest" 3 f_law_rest) : Fd P w K mg base 3 "_law_draw" 2 f_law_draw := by
  refine fd_of (k := 2) (n := 2) (m := 1) (g := b_law_draw) F sc_law_draw hm (FunD.bindsN F fun _ _ _ _ _ _ us hl => match us, hl with | [_, _], _ => rfl) rfl rfl fun cdv A outer s H E hr => ?_
  exact ⟨_, (l_cons (st_if (b_cmp op_le s_le (EE.oo (e_ix (ix_G (hu1 hr)) s_ix (o_var 0) (EV.o v_int) (fun _ _ => rfl))) (EV.o v_int) (nomark _)) (l_cons (st_ix 0 (hu1 hr) (EE.v (e_op op_addG s_add (EE.oo (e_ix (ix_G (hu1 hr)) s_ix (o_var 0) (EV.o v_int) (fun _ _ => rfl))) (EV.o v_int))) v_int)
    (l_one (st_ix 0 (hu1 hr) (EE.v (e_call F_law_rest (hr.mono (by decide)) (by rfl) (lenC_cons (lenC_cons (lenC_cons lenC_nil))) (ac_cons (EE.v (e_ix (ix_G (hu1 hr)) s_ix (o_var 0) (EV.o v_int) (fun _ _ => rfl))) (ac_cons (EE.v (e_ix (ix_G (hu1 hr)) s_ix (o_var 0) (EV.o v_int) (fun _ _ => rfl))) (ac_cons (EE.v (e_ix (ix_G (hu1 hr)) s_ix (o_var 0) (EV.o v_int) (fun _ _ => rfl))) ac_nil))))) v_int))) l_nil)
    (l_cons (st_set (i := 2) sc_law_draw.nd rfl (by first | exact .inl rfl | exact .inr rfl) (e_op op_modN s_mod (EE.oo (e_callT s_int1 call_int1 (by rfl) B.int_ (by decide +kernel) (ao_cons (EE.oo (e_ix (ix_G (hu1 hr)) s_ix (o_var 0) (EV.o v_int) (fun _ _ => rfl))) ao_nil))) (o_var 1)))
    (l_cons (st_ix 0 (hu1 hr) (EE.v (e_op op_fdivG s_fdiv (EE.oo (e_callT s_int1 call_int1 (by rfl) B.int_ (by decide +kernel) (ao_cons (EE.oo (e_ix (ix_G (hu1 hr)) s_ix (o_var 0) (EV.o v_int) (fun _ _ => rfl))) ao_nil))) (o_var 1))) v_int)
    (l_one (st_mv 2)))))⟩
abbrev s_law_same : Stmt := top 15
theorem sc_law_same : FnScope ["answer", "due", "key", "k"] ["answer", "due"] (defScope s_law_same) := ⟨rfl, rfl, rfl, by decide +kernel, rfl, by decide +kernel, by decide +kernel⟩
theorem okN_law_same {f : Addr} {fd : FuncData} (F : FnP K "_law_same" s_law_same f fd) (hm : mg "_law_same" = some (.ref f)) (B : Bl mg)  : ∀ n, Fd P w K mg base (0 + n + 1) "_law_same" 2 (fN_law_same n)
  | 0 => fd_none F sc_law_same hm (FunD.bindsN F fun _ _ _ _ _ _ us hl => match us, hl with | [_, _], _ => rfl) rfl
  | n + 1 => by
    have FR := okN_law_same F hm B  n
    refine fd_of (k := 0 + n + 1) (n := 2) (m := 2) (g := b_law_same (fN_law_same n)) F sc_law_same hm (FunD.bindsN F fun _ _ _ _ _ _ us hl => match us, hl with | [_, _], _ => rfl) rfl rfl fun cdv A outer s H E hr => ?_
    exact ⟨_, (l_cons (st_if (b_tru (EE.oo (e_isi (ty := "dict") (by decide) (by rfl) B.isinstance_ (by rfl) B.dict_ (by decide +kernel) (o_var 1))) (fun _ => rfl)) (l_cons (st_if (EW.bb (w_or (b_not (b_tru (EE.oo (e_isi (ty := "dict") (by decide) (by rfl) B.isinstance_ (by rfl) B.dict_ (by decide +kernel) (o_var 0))) (fun _ => rfl))) (w_or1 (b_cmp (op_neD hr.units) s_ne (EE.oo (e_callB s_len call_lenG (by rfl) B.len_ (by decide +kernel) (ao_cons (o_var 0) ao_nil))) (EE.oo (e_callB s_len call_lenG (by rfl) B.len_ (by decide +kernel) (ao_cons (o_var 1) ao_nil))) (nomark _))))) (l_one (st_ret (EV.ee v_bl))) l_nil)
    (l_one (st_ret (e_callB s_all (cr_all rfl) (by rfl) B.all_ (by decide +kernel) (ao_cons (EE.oo (x_lcD [2]  1 rfl sc_law_same.nd (blkOk_by (own := [("key", 2)]) (by kernel_rfl)) (fun _ _ _ _ _ => ⟨_, (g_name (i := 2) sc_law_same.nd rfl (by first | exact .inl rfl | exact .inr rfl))⟩) (fun _ _ _ _ _ => ⟨_, t_nil⟩) (fun _ _ _ _ _ => ⟨_, (EE.v (e_and (EE.v (e_cmp (op_inG (hu65 hr)) s_in (o_var 2) (o_var 0) (by rfl))) (e_one (e_call FR (hr.mono (Nat.le_refl _)) (by rfl) (lenC_cons (lenC_cons lenC_nil)) (ac_cons (EE.v (e_ix (ix_G (hu1 hr)) s_ix (o_var 0) (o_var 2) (fun _ _ => rfl))) (ac_cons (EE.v (e_ix (ix_G (hu1 hr)) s_ix (o_var 1) (o_var 2) (fun _ _ => rfl))) ac_nil))))))⟩) (by decide))) ao_nil))))) l_nil)
    (l_cons (st_if (EW.bb (w_or (b_tru (EE.oo (e_isi (ty := "list") (by decide) (by rfl) B.isinstance_ (by rfl) B.list_ (by decide +kernel) (o_var 1))) (fun _ => rfl)) (w_or1 (b_tru (EE.oo (e_isi (ty := "tuple") (by decide) (by rfl) B.isinstance_ (by rfl) B.tuple_ (by decide +kernel) (o_var 1))) (fun _ => rfl))))) (l_cons (st_if (EW.bb (w_or (b_cmp (op_neD hr.units) s_ne (EE.oo (e_isi (ty := "list") (by decide) (by rfl) B.isinstance_ (by rfl) B.list_ (by decide +kernel) (o_var 1))) (EE.oo (e_isi (ty := "list") (by decide) (by rfl) B.isinstance_ (by rfl) B.list_ (by decide +kernel) (o_var 0))) (nomark _)) (w_or1 (b_cmp (op_neD hr.units) s_ne (EE.oo (e_isi (ty := "tuple") (by decide) (by rfl) B.isinstance_ (by rfl) B.tuple_ (by decide +kernel) (o_var 1))) (EE.oo (e_isi (ty := "tuple") (by decide) (by rfl) B.isinstance_ (by rfl) B.tuple_ (by decide +kernel) (o_var 0))) (nomark _))))) (l_one (st_ret (EV.ee v_bl))) l_nil)
    (l_one (st_ret (e_and (EE.v (e_cmp (op_eqD hr.units) s_eq (EE.oo (e_callB s_len call_lenG (by rfl) B.len_ (by decide +kernel) (ao_cons (o_var 0) ao_nil))) (EE.oo (e_callB s_len call_lenG (by rfl) B.len_ (by decide +kernel) (ao_cons (o_var 1) ao_nil))) (nomark _))) (e_one (e_callB s_all (cr_all rfl) (by rfl) B.all_ (by decide +kernel) (ao_cons (EE.oo (x_lc [3] rfl sc_law_same.nd (i_rng1 (by rfl) B.range_ (ao_cons (EE.oo (e_callB s_len call_lenG (by rfl) B.len_ (by decide +kernel) (ao_cons (o_var 1) ao_nil))) ao_nil)) (blkOk_by (own := [("k", 3)]) (by kernel_rfl)) (fun _ _ _ _ _ => ⟨_, (g_name (i := 3) sc_law_same.nd rfl (by first | exact .inl rfl | exact .inr rfl))⟩) (fun _ _ _ _ _ => ⟨_, t_nil⟩) (fun _ _ _ _ _ => ⟨_, (EE.v (e_call FR (hr.mono (Nat.le_refl _)) (by rfl) (lenC_cons (lenC_cons lenC_nil)) (ac_cons (EE.v (e_ix (ix_G (hu1 hr)) s_ix (o_var 0) (o_var 3) (fun _ _ => rfl))) (ac_cons (EE.v (e_ix (ix_G (hu1 hr)) s_ix (o_var 1) (o_var 3) (fun _ _ => rfl))) ac_nil))))⟩) (by decide))) ao_nil))))))) l_nil)
    (l_cons (st_if (b_tru (EE.oo (e_isi (ty := "str") (by decide) (by rfl) B.isinstance_ (by rfl) B.str_ (by decide +kernel) (o_var 1))) (fun _ => rfl)) (l_one (st_ret (e_and (EE.v (e_isi (ty := "str") (by decide) (by rfl) B.isinstance_ (by rfl) B.str_ (by decide +kernel) (o_var 0))) (e_one (e_cmp (op_eqD hr.units) s_eq (o_var 0) (o_var 1) (nomark _)))))) l_nil)
    (l_cons (st_if (EW.bb (w_or (b_cmp op_isS s_is (o_var 1) (EV.o v_non) (nomark _)) (w_or (b_cmp op_isS s_is (o_var 1) (EV.o v_bl) (nomark _)) (w_or1 (b_cmp op_isS s_is (o_var 1) (EV.o v_bl) (nomark _)))))) (l_one (st_ret (e_or (EE.v (e_and (EE.v (e_cmp op_isS s_is (o_var 1) (EV.o v_non) (nomark _))) (e_one (e_cmp op_isS s_is (o_var 0) (EV.o v_non) (nomark _))))) (e_or (EE.v (e_and (EE.v (e_cmp op_isS s_is (o_var 1) (EV.o v_bl) (nomark _))) (e_one (e_cmp op_isS s_is (o_var 0) (EV.o v_bl) (nomark _))))) (e_one (e_and (EE.v (e_cmp op_isS s_is (o_var 1) (EV.o v_bl) (nomark _))) (e_one (e_cmp op_isS s_is (o_var 0) (EV.o v_bl) (nomark _))))))))) l_nil)
    (l_one (st_ret (e_and (EE.v (e_isi (ty := "int") (by decide) (by rfl) B.isinstance_ (by rfl) B.int_ (by decide +kernel) (o_var 0))) (e_and (EE.v (e_not (EE.oo (e_isi (ty := "bool") (by decide) (by rfl) B.isinstance_ (by rfl) B.bool_ (by decide +kernel) (o_var 0))))) (e_one (e_cmp (op_eqD hr.units) s_eq (o_var 0) (o_var 1) (nomark _)))))))))))⟩
theorem ok_law_same {f : Addr} {fd : FuncData} (F : FnP K "_law_same" s_law_same f fd) (hm : mg "_law_same" = some (.ref f)) (B : Bl mg)  : Fd P w K mg base 6 "_law_same" 2 f_law_same := okN_law_same F hm B  5
abbrev s_law_different : Stmt := top 16
theorem sc_law_different : FnScope ["items", "found", "item"] ["items"] (defScope s_law_different) := ⟨rfl, rfl, rfl, by decide +kernel, rfl, by decide +kernel, by decide +kernel⟩
theorem ok_law_different {f : Addr} {fd : FuncData} (F : FnP K "_law_different" s_law_different f fd) (hm : mg "_law_different" = some (.ref f)) (B : Bl mg)  : Fd P w K mg base 1 "_law_different" 1 f_law_different := by
  refine fd_of (k := 0) (n := 1) (m := 2) (g := b_law_different) F sc_law_different hm (FunD.bindsN F fun _ _ _ _ _ _ us hl => match us, hl with | [_], _ => rfl) rfl rfl fun cdv A outer s H E hr => ?_
  exact ⟨_, (l_cons (st_set (i := 1) sc_law_different.nd rfl (by first | exact .inl rfl | exact .inr rfl) (e_lst av_nil))
    (l_cons (st_for PassesOwn.never rfl (i_list (v_var 0)) (g_name (i := 2) sc_law_different.nd rfl (by first | exact .inl rfl | exact .inr rfl)) (l_one (st_if (b_cmp (op_ninG (hu65 hr)) s_nin (o_var 2) (o_var 1) (by rfl)) (l_one (st_expr (e_met 1 PySem.F.slot_list_append PySem.F.type_list_append mt_append s_app (av_cons (v_var 2) av_nil)))) l_nil)))
    (l_one (st_mv 1))))⟩
abbrev s_law_clamped : Stmt := top 17
theorem sc_law_clamped : FnScope ["plays", "state", "number", "found", "k", "place", "low"] ["plays", "state", "number"] (defScope s_law_clamped) := ⟨rfl, rfl, rfl, by decide +kernel, rfl, by decide +kernel, by decide +kernel⟩
theorem ok_law_clamped {f : Addr} {fd : FuncData} (F : FnP K "_law_clamped" s_law_clamped f fd) (hm : mg "_law_clamped" = some (.ref f)) (B : Bl mg)  : Fd P w K mg base 1 "_law_clamped" 3 f_law_clamped := by
  refine fd_of (k := 0) (n := 3) (m := 4) (g := b_law_clamped) F sc_law_clamped hm (FunD.bindsN F fun _ _ _ _ _ _ us hl => match us, hl with | [_, _, _], _ => rfl) rfl rfl fun cdv A outer s H E hr => ?_
  exact ⟨_, (l_cons (st_set (i := 3) sc_law_clamped.nd rfl (by first | exact .inl rfl | exact .inr rfl) (e_lst (av_cons (EE.v (e_op op_addG s_add (EE.oo (e_ix (ix_G (hu1 hr)) s_ix (o_var 1) (EV.o v_int) (fun _ _ => rfl))) (o_var 2))) av_nil)))
    (l_cons (st_for PassesOwn.never rfl (i_rng1 (by rfl) B.range_ (ao_cons (EE.oo (e_callB s_len call_lenG (by rfl) B.len_ (by decide +kernel) (ao_cons (o_var 0) ao_nil))) ao_nil)) (g_name (i := 4) sc_law_clamped.nd rfl (by first | exact .inl rfl | exact .inr rfl)) (l_cons (st_set (i := 5) sc_law_clamped.nd rfl (by first | exact .inl rfl | exact .inr rfl) (e_ix (ix_G (hu1 hr)) s_ix (o_var 1) (EE.oo (e_op op_addG s_add (o_var 4) (EV.o v_int))) (fun _ _ => rfl)))
    (l_cons (st_set (i := 6) sc_law_clamped.nd rfl (by first | exact .inl rfl | exact .inr rfl) (e_op op_sub s_sub (EE.oo (e_ix (ix_G (hu1 hr)) s_ix (o_var 3) (o_var 4) (fun _ _ => rfl))) (EE.oo (e_ix (ix_G (hu1 hr)) s_ix (o_var 0) (o_var 4) (fun _ _ => rfl)))))
    (l_one (st_expr (e_met 3 PySem.F.slot_list_append PySem.F.type_list_append mt_append s_app (av_cons (EE.v (e_if (b_cmp (op_ltG hr.units0) s_lt (o_var 5) (o_var 6) (nomark _)) (EV.ee (v_var 6)) (e_if (b_cmp op_gt s_gt (o_var 5) (EE.oo (e_ix (ix_G (hu1 hr)) s_ix (o_var 3) (o_var 4) (fun _ _ => rfl))) (nomark _)) (e_ix (ix_G (hu1 hr)) s_ix (o_var 3) (o_var 4) (fun _ _ => rfl)) (EV.ee (v_var 5))))) av_nil)))))))
    (l_one (st_mv 3))))⟩
abbrev s_law_state_drawn : Stmt := top 18
theorem sc_law_state_drawn : FnScope ["pool", "plays", "found", "play"] ["pool", "plays"] (defScope s_law_state_drawn) := ⟨rfl, rfl, rfl, by decide +kernel, rfl, by decide +kernel, by decide +kernel⟩
theorem ok_law_state_drawn {f : Addr} {fd : FuncData} (F : FnP K "_law_state_drawn" s_law_state_drawn f fd) (hm : mg "_law_state_drawn" = some (.ref f)) (B : Bl mg) (F_law_draw : Fd P w K mg base 3 "_law_draw" 2 f_law_draw) : Fd P w K mg base 4 "_law_state_drawn" 2 f_law_state_drawn := by
  refine fd_of (k := 3) (n := 2) (m := 2) (g := b_law_state_drawn) F sc_law_state_drawn hm (FunD.bindsN F fun _ _ _ _ _ _ us hl => match us, hl with | [_, _], _ => rfl) rfl rfl fun cdv A outer s H E hr => ?_
  exact ⟨_, (l_cons (st_set (i := 2) sc_law_state_drawn.nd rfl (by first | exact .inl rfl | exact .inr rfl) (e_lst (av_cons (EE.v (e_op op_sub s_sub (EE.oo (e_call F_law_draw (hr.mono (by decide)) (by rfl) (lenC_plc (lenC_cons lenC_nil)) (ac_plc 0 (ac_cons v_int ac_nil)))) (EV.o v_int))) av_nil)))
    (l_cons (st_for PassesOwn.never rfl (i_list (v_var 1)) (g_name (i := 3) sc_law_state_drawn.nd rfl (by first | exact .inl rfl | exact .inr rfl)) (l_one (st_expr (e_met 2 PySem.F.slot_list_append PySem.F.type_list_append mt_append s_app (av_cons (EE.v (e_op op_sub s_sub (EE.oo (e_ix (ix_G (hu1 hr)) s_ix (o_var 2) (EE.oo (e_un un_neg s_neg (EV.o v_int))) (fun _ _ => rfl))) (EE.oo (e_call F_law_draw (hr.mono (by decide)) (by rfl) (lenC_plc (lenC_cons lenC_nil)) (ac_plc 0 (ac_cons (EE.v (e_op op_addG s_add (o_var 3) (EV.o v_int))) ac_nil)))))) av_nil)))))
    (l_one (st_mv 2))))⟩
abbrev s_law_opens : Stmt := top 19
theorem sc_law_opens : FnScope ["marks", "state", "gates", "tolerance", "k", "away"] ["marks", "state", "gates", "tolerance"] (defScope s_law_opens) := ⟨rfl, rfl, rfl, by decide +kernel, rfl, by decide +kernel, by decide +kernel⟩
theorem ok_law_opens {f : Addr} {fd : FuncData} (F : FnP K "_law_opens" s_law_opens f fd) (hm : mg "_law_opens" = some (.ref f)) (B : Bl mg)  : Fd P w K mg base 1 "_law_opens" 4 f_law_opens := by
  refine fd_of (k := 0) (n := 4) (m := 2) (g := b_law_opens) F sc_law_opens hm (FunD.bindsN F fun _ _ _ _ _ _ us hl => match us, hl with | [_, _, _, _], _ => rfl) rfl rfl fun cdv A outer s H E hr => ?_
  exact ⟨_, (l_cons (st_for PassesOwn.never rfl (i_rng1 (by rfl) B.range_ (ao_cons (EE.oo (e_callB s_len call_lenG (by rfl) B.len_ (by decide +kernel) (ao_cons (o_var 2) ao_nil))) ao_nil)) (g_name (i := 4) sc_law_opens.nd rfl (by first | exact .inl rfl | exact .inr rfl)) (l_cons (st_set (i := 5) sc_law_opens.nd rfl (by first | exact .inl rfl | exact .inr rfl) (e_op op_modN s_mod (EE.oo (e_callT s_int1 call_int1 (by rfl) B.int_ (by decide +kernel) (ao_cons (EE.oo (e_op op_sub s_sub (EE.oo (e_ix (ix_G (hu1 hr)) s_ix (o_var 1) (o_var 4) (fun _ _ => rfl))) (EE.oo (e_ix (ix_G (hu1 hr)) s_ix (o_var 2) (o_var 4) (fun _ _ => rfl))))) ao_nil))) (o_var 0)))
    (l_one (st_if (EW.bb (w_and (b_cmp op_gt s_gt (o_var 5) (o_var 3) (nomark _)) (w_and1 (b_cmp op_gt s_gt (EE.oo (e_op op_sub s_sub (o_var 0) (o_var 5))) (o_var 3) (nomark _))))) (l_one (st_ret (EV.ee v_bl))) l_nil))))
    (l_one (st_ret (EV.ee v_bl))))⟩
abbrev s_law_stepped : Stmt := top 20
theorem sc_law_stepped : FnScope ["plays", "state", "number", "found", "turn", "step", "k"] ["plays", "state", "number"] (defScope s_law_stepped) := ⟨rfl, rfl, rfl, by decide +kernel, rfl, by decide +kernel, by decide +kernel⟩
theorem ok_law_stepped {f : Addr} {fd : FuncData} (F : FnP K "_law_stepped" s_law_stepped f fd) (hm : mg "_law_stepped" = some (.ref f)) (B : Bl mg)  : Fd P w K mg base 1 "_law_stepped" 3 f_law_stepped := by
  refine fd_of (k := 0) (n := 3) (m := 4) (g := b_law_stepped) F sc_law_stepped hm (FunD.bindsN F fun _ _ _ _ _ _ us hl => match us, hl with | [_, _, _], _ => rfl) rfl rfl fun cdv A outer s H E hr => ?_
  exact ⟨_, (l_cons (st_set (i := 3) sc_law_stepped.nd rfl (by first | exact .inl rfl | exact .inr rfl) (e_callT s_list call_list_of (by rfl) B.list_ (by decide +kernel) (ao_cons (o_var 1) ao_nil)))
    (l_cons (st_for PassesOwn.never rfl (i_rng1 (by rfl) B.range_ (ao_cons (EE.oo (e_callB s_max2 (call_max2 rfl) (by rfl) B.max_ (by decide +kernel) (ao_cons (o_var 2) (ao_cons (EE.oo (e_un un_neg s_neg (o_var 2))) ao_nil)))) ao_nil)) (g_name (i := 4) sc_law_stepped.nd rfl (by first | exact .inl rfl | exact .inr rfl)) (l_cons (st_set (i := 5) sc_law_stepped.nd rfl (by first | exact .inl rfl | exact .inr rfl) (e_if (b_cmp op_gt s_gt (o_var 2) (EV.o v_int) (nomark _)) (EV.ee v_int) (e_un un_neg s_neg (EV.o v_int))))
    (l_cons (st_ix 3 (hu1 hr) (EE.v (e_op op_addG s_add (EE.oo (e_ix (ix_G (hu1 hr)) s_ix (o_var 3) (EV.o v_int) (fun _ _ => rfl))) (o_var 5))) v_int)
    (l_one (st_for PassesOwn.never rfl (i_rng1 (by rfl) B.range_ (ao_cons (EE.oo (e_callB s_len call_lenG (by rfl) B.len_ (by decide +kernel) (ao_cons (o_var 0) ao_nil))) ao_nil)) (g_name (i := 6) sc_law_stepped.nd rfl (by first | exact .inl rfl | exact .inr rfl)) (l_one (st_if (EW.bb (w_or (b_cmp op_gt s_gt (EE.oo (e_op op_sub s_sub (EE.oo (e_ix (ix_G (hu1 hr)) s_ix (o_var 3) (o_var 6) (fun _ _ => rfl))) (EE.oo (e_ix (ix_G (hu1 hr)) s_ix (o_var 3) (EE.oo (e_op op_addG s_add (o_var 6) (EV.o v_int))) (fun _ _ => rfl))))) (EE.oo (e_ix (ix_G (hu1 hr)) s_ix (o_var 0) (o_var 6) (fun _ _ => rfl))) (nomark _)) (w_or1 (b_cmp op_gt s_gt (EE.oo (e_ix (ix_G (hu1 hr)) s_ix (o_var 3) (EE.oo (e_op op_addG s_add (o_var 6) (EV.o v_int))) (fun _ _ => rfl))) (EE.oo (e_ix (ix_G (hu1 hr)) s_ix (o_var 3) (o_var 6) (fun _ _ => rfl))) (nomark _))))) (l_one (st_ix 3 (hu1 hr) (EE.v (e_op op_addG s_add (EE.oo (e_ix (ix_G (hu1 hr)) s_ix (o_var 3) (EE.oo (e_op op_addG s_add (o_var 6) (EV.o v_int))) (fun _ _ => rfl))) (o_var 5))) (EE.v (e_op op_addG s_add (o_var 6) (EV.o v_int))))) l_nil)))))))
    (l_one (st_mv 3))))⟩
abbrev s_law : Stmt := top 21
theorem sc_law : FnScope ["script", "pool", "plays", "state", "k", "numbers", "handed", "here", "marks", "number", "gates", "tolerance", "count", "gate", "product", "wheel", "goal", "way", "bent", "at", "due", "there", "value", "j", "place"] ["script"] (defScope s_law) := ⟨rfl, rfl, rfl, by decide +kernel, rfl, by decide +kernel, by decide +kernel⟩
theorem ok_law {f : Addr} {fd : FuncData} (F : FnP K "law" s_law f fd) (B : Bl mg) (F_is_state : Fd P w K mg base 1 "is_state" 2 f_is_state) (F_turned : Fd P w K mg base 1 "turned" 3 f_turned) (F_turned_by : Fd P w K mg base 2 "turned_by" 3 f_turned_by) (F_opens : Fd P w K mg base 1 "opens" 4 f_opens) (F_opening_count : Fd P w K mg base 1 "opening_count" 3 f_opening_count) (F_way_to : Fd P w K mg base 2 "way_to" 3 f_way_to) (F_enough_numbers : Fd P w K mg base 1 "enough_numbers" 2 f_enough_numbers) (F_tries : Fd P w K mg base 2 "tries" 3 f_tries) (F_law_pool : Fd P w K mg base 3 "_law_pool" 1 f_law_pool) (F_law_next : Fd P w K mg base 3 "_law_next" 1 f_law_next) (F_law_draw : Fd P w K mg base 3 "_law_draw" 2 f_law_draw) (F_law_same : Fd P w K mg base 6 "_law_same" 2 f_law_same) (F_law_different : Fd P w K mg base 1 "_law_different" 1 f_law_different) (F_law_clamped : Fd P w K mg base 1 "_law_clamped" 3 f_law_clamped) (F_law_state_drawn : Fd P w K mg base 4 "_law_state_drawn" 2 f_law_state_drawn) (F_law_opens : Fd P w K mg base 1 "_law_opens" 4 f_law_opens) (F_law_stepped : Fd P w K mg base 1 "_law_stepped" 3 f_law_stepped) : FnOk P w K mg base CX0 7 f fd ["script"] (spT K 1 f_law) := by
  refine ok_of (k := 6) (n := 1) (m := 24) (g := b_law) F sc_law rfl rfl fun cdv A outer s H E hr => ?_
  exact ⟨_, (l_cons (st_set (i := 1) sc_law.nd rfl (by first | exact .inl rfl | exact .inr rfl) (e_call F_law_pool (hr.mono (by decide)) (by rfl) (lenC_cons lenC_nil) (ac_cons (v_var 0) ac_nil)))
    (l_cons (st_set (i := 2) sc_law.nd rfl (by first | exact .inl rfl | exact .inr rfl) (x_lc [4] rfl sc_law.nd (i_rng1 (by rfl) B.range_ (ao_cons (EE.oo (e_call F_law_draw (hr.mono (by decide)) (by rfl) (lenC_plc (lenC_cons lenC_nil)) (ac_plc 1 (ac_cons v_int ac_nil)))) ao_nil)) (blkOk_by (own := [("k", 4)]) (by kernel_rfl)) (fun _ _ _ _ _ => ⟨_, (g_name (i := 4) sc_law.nd rfl (by first | exact .inl rfl | exact .inr rfl))⟩) (fun _ _ _ _ _ => ⟨_, t_nil⟩) (fun _ _ _ _ _ => ⟨_, (EE.v (e_call F_law_draw (hr.mono (by decide)) (by rfl) (lenC_plc (lenC_cons lenC_nil)) (ac_plc 1 (ac_cons v_int ac_nil))))⟩) (by decide)))
    (l_cons (st_set (i := 3) sc_law.nd rfl (by first | exact .inl rfl | exact .inr rfl) (e_call F_law_state_drawn (hr.mono (by decide)) (by rfl) (lenC_plc (lenC_cons lenC_nil)) (ac_plc 1 (ac_cons (v_var 2) ac_nil))))
    (l_cons (st_if (b_cmp op_isnS s_isn (EE.oo (e_call F_is_state (hr.mono (by decide)) (by rfl) (lenC_cons (lenC_cons lenC_nil)) (ac_cons (v_var 2) (ac_cons (EE.v (e_callT s_list call_list_of (by rfl) B.list_ (by decide +kernel) (ao_cons (o_var 3) ao_nil))) ac_nil)))) (EV.o v_bl) (nomark _)) (l_one (st_ret (EV.ee v_bl))) l_nil)
    (l_cons (st_for PassesOwn.never rfl (i_rng1 (by rfl) B.range_ (ao_cons (EV.o v_int) ao_nil)) (g_name (i := 4) sc_law.nd rfl (by first | exact .inl rfl | exact .inr rfl)) (l_cons (st_expr (e_call F_law_next (hr.mono (by decide)) (by rfl) (lenC_plc lenC_nil) (ac_plc 1 ac_nil)))
    (l_cons (st_set (i := 18) sc_law.nd rfl (by first | exact .inl rfl | exact .inr rfl) (e_callT s_list call_list_of (by rfl) B.list_ (by decide +kernel) (ao_cons (o_var 3) ao_nil)))
    (l_cons (st_set (i := 19) sc_law.nd rfl (by first | exact .inl rfl | exact .inr rfl) (e_call F_law_draw (hr.mono (by decide)) (by rfl) (lenC_plc (lenC_cons lenC_nil)) (ac_plc 1 (ac_cons (EE.v (e_callB s_len call_lenG (by rfl) B.len_ (by decide +kernel) (ao_cons (o_var 18) ao_nil))) ac_nil))))
    (l_cons (st_ix 18 (hu1 hr) (EE.v (e_op op_sub s_sub (EE.oo (e_op op_addG s_add (EE.oo (e_ix (ix_G (hu1 hr)) s_ix (o_var 18) (o_var 19) (fun _ _ => rfl))) (EE.oo (e_call F_law_draw (hr.mono (by decide)) (by rfl) (lenC_plc (lenC_cons lenC_nil)) (ac_plc 1 (ac_cons v_int ac_nil)))))) (EV.o v_int))) (v_var 19))
    (l_cons (st_set (i := 20) sc_law.nd rfl (by first | exact .inl rfl | exact .inr rfl) (e_callB s_all (cr_all rfl) (by rfl) B.all_ (by decide +kernel) (ao_cons (EE.oo (x_lc [23] rfl sc_law.nd (i_rng1 (by rfl) B.range_ (ao_cons (EE.oo (e_callB s_len call_lenG (by rfl) B.len_ (by decide +kernel) (ao_cons (o_var 2) ao_nil))) ao_nil)) (blkOk_by (own := [("j", 23)]) (by kernel_rfl)) (fun _ _ _ _ _ => ⟨_, (g_name (i := 23) sc_law.nd rfl (by first | exact .inl rfl | exact .inr rfl))⟩) (fun _ _ _ _ _ => ⟨_, t_nil⟩) (fun _ _ _ _ _ => ⟨_, (EE.v (e_and (EE.v (e_cmp op_le s_le (EV.o v_int) (EE.oo (e_op op_sub s_sub (EE.oo (e_ix (ix_G (hu1 hr)) s_ix (o_var 18) (o_var 23) (fun _ _ => rfl))) (EE.oo (e_ix (ix_G (hu1 hr)) s_ix (o_var 18) (EE.oo (e_op op_addG s_add (o_var 23) (EV.o v_int))) (fun _ _ => rfl))))) (nomark _))) (e_one (e_cmp op_le s_le (EE.oo (e_op op_sub s_sub (EE.oo (e_ix (ix_G (hu1 hr)) s_ix (o_var 18) (o_var 23) (fun _ _ => rfl))) (EE.oo (e_ix (ix_G (hu1 hr)) s_ix (o_var 18) (EE.oo (e_op op_addG s_add (o_var 23) (EV.o v_int))) (fun _ _ => rfl))))) (EE.oo (e_ix (ix_G (hu1 hr)) s_ix (o_var 2) (o_var 23) (fun _ _ => rfl))) (nomark _)))))⟩) (by decide))) ao_nil)))
    (l_one (st_if (b_not (b_tru (EE.oo (e_call F_law_same (hr.mono (by decide)) (by rfl) (lenC_cons (lenC_cons lenC_nil)) (ac_cons (EE.v (e_call F_is_state (hr.mono (by decide)) (by rfl) (lenC_cons (lenC_cons lenC_nil)) (ac_cons (v_var 2) (ac_cons (v_var 18) ac_nil)))) (ac_cons (v_var 20) ac_nil)))) (fun _ => rfl))) (l_one (st_ret (EV.ee v_bl))) l_nil))))))))
    (l_cons (st_if (b_tru (EE.oo (e_callB s_any (cr_any rfl) (by rfl) B.any_ (by decide +kernel) (ao_cons (EE.oo (x_lc [22] rfl sc_law.nd (i_list (EE.v (e_lst (av_cons v_non (av_cons (EE.v (e_callT s_tuple call_tuple_of (by rfl) B.tuple_ (by decide +kernel) (ao_cons (o_var 3) ao_nil))) (av_cons (EE.v (e_sl (o_var 3) (p_so v_int) p_no)) (av_cons (EE.v (e_op op_addG s_add (o_var 3) (EE.oo (e_lst (av_cons v_int av_nil))))) (av_cons (EE.v (e_op op_mulG s_mul (EE.oo (e_lst (av_cons v_bl av_nil))) (EE.oo (e_callB s_len call_lenG (by rfl) B.len_ (by decide +kernel) (ao_cons (o_var 3) ao_nil))))) (av_cons (EE.v (e_op op_mulG s_mul (EE.oo (e_lst (av_cons v_str av_nil))) (EE.oo (e_callB s_len call_lenG (by rfl) B.len_ (by decide +kernel) (ao_cons (o_var 3) ao_nil))))) av_nil))))))))) (blkOk_by (own := [("value", 22)]) (by kernel_rfl)) (fun _ _ _ _ _ => ⟨_, (g_name (i := 22) sc_law.nd rfl (by first | exact .inl rfl | exact .inr rfl))⟩) (fun _ _ _ _ _ => ⟨_, t_nil⟩) (fun _ _ _ _ _ => ⟨_, (EE.v (e_call F_is_state (hr.mono (by decide)) (by rfl) (lenC_cons (lenC_cons lenC_nil)) (ac_cons (v_var 2) (ac_cons (v_var 22) ac_nil))))⟩) (by decide))) ao_nil))) (fun _ => rfl)) (l_one (st_ret (EV.ee v_bl))) l_nil)
    (l_cons (st_set (i := 5) sc_law.nd rfl (by first | exact .inl rfl | exact .inr rfl) (x_lc [4] rfl sc_law.nd (i_rng1 (by rfl) B.range_ (ao_cons (EE.oo (e_call F_law_draw (hr.mono (by decide)) (by rfl) (lenC_plc (lenC_cons lenC_nil)) (ac_plc 1 (ac_cons v_int ac_nil)))) ao_nil)) (blkOk_by (own := [("k", 4)]) (by kernel_rfl)) (fun _ _ _ _ _ => ⟨_, (g_name (i := 4) sc_law.nd rfl (by first | exact .inl rfl | exact .inr rfl))⟩) (fun _ _ _ _ _ => ⟨_, t_nil⟩) (fun _ _ _ _ _ => ⟨_, (EE.v (e_op op_sub s_sub (EE.oo (e_call F_law_draw (hr.mono (by decide)) (by rfl) (lenC_plc (lenC_cons lenC_nil)) (ac_plc 1 (ac_cons v_int ac_nil)))) (EV.o v_int)))⟩) (by decide)))
    (l_cons (st_set (i := 6) sc_law.nd rfl (by first | exact .inl rfl | exact .inr rfl) (e_callT s_list call_list_of (by rfl) B.list_ (by decide +kernel) (ao_cons (o_var 3) ao_nil)))
    (l_cons (st_set (i := 7) sc_law.nd rfl (by first | exact .inl rfl | exact .inr rfl) (e_callT s_list call_list_of (by rfl) B.list_ (by decide +kernel) (ao_cons (o_var 3) ao_nil)))
    (l_cons (st_set (i := 8) sc_law.nd rfl (by first | exact .inl rfl | exact .inr rfl) (e_op op_addG s_add (EV.o v_int) (EE.oo (e_call F_law_draw (hr.mono (by decide)) (by rfl) (lenC_plc (lenC_cons lenC_nil)) (ac_plc 1 (ac_cons v_int ac_nil))))))
    (l_cons (st_for PassesOwn.never rfl (i_list (v_var 5)) (g_name (i := 9) sc_law.nd rfl (by first | exact .inl rfl | exact .inr rfl)) (l_cons (st_set (i := 21) sc_law.nd rfl (by first | exact .inl rfl | exact .inr rfl) (e_call F_turned (hr.mono (by decide)) (by rfl) (lenC_cons (lenC_cons (lenC_cons lenC_nil))) (ac_cons (v_var 2) (ac_cons (EE.v (e_callT s_list call_list_of (by rfl) B.list_ (by decide +kernel) (ao_cons (o_var 7) ao_nil))) (ac_cons (v_var 9) ac_nil)))))
    (l_cons (st_if (EW.bb (w_or (b_not (b_tru (EE.oo (e_call F_law_same (hr.mono (by decide)) (by rfl) (lenC_cons (lenC_cons lenC_nil)) (ac_cons (v_var 21) (ac_cons (EE.v (e_call F_law_stepped (hr.mono (by decide)) (by rfl) (lenC_cons (lenC_cons (lenC_cons lenC_nil))) (ac_cons (v_var 2) (ac_cons (v_var 7) (ac_cons (v_var 9) ac_nil))))) ac_nil)))) (fun _ => rfl))) (w_or1 (b_not (b_tru (EE.oo (e_call F_law_same (hr.mono (by decide)) (by rfl) (lenC_cons (lenC_cons lenC_nil)) (ac_cons (EE.v (e_call F_turned (hr.mono (by decide)) (by rfl) (lenC_cons (lenC_cons (lenC_cons lenC_nil))) (ac_cons (v_var 2) (ac_cons (EE.v (x_lc [24] rfl sc_law.nd (i_list (v_var 7)) (blkOk_by (own := [("place", 24)]) (by kernel_rfl)) (fun _ _ _ _ _ => ⟨_, (g_name (i := 24) sc_law.nd rfl (by first | exact .inl rfl | exact .inr rfl))⟩) (fun _ _ _ _ _ => ⟨_, t_nil⟩) (fun _ _ _ _ _ => ⟨_, (EE.v (e_op op_addG s_add (o_var 24) (o_var 8)))⟩) (by decide))) (ac_cons (v_var 9) ac_nil))))) (ac_cons (EE.v (x_lc [24] rfl sc_law.nd (i_list (v_var 21)) (blkOk_by (own := [("place", 24)]) (by kernel_rfl)) (fun _ _ _ _ _ => ⟨_, (g_name (i := 24) sc_law.nd rfl (by first | exact .inl rfl | exact .inr rfl))⟩) (fun _ _ _ _ _ => ⟨_, t_nil⟩) (fun _ _ _ _ _ => ⟨_, (EE.v (e_op op_addG s_add (o_var 24) (o_var 8)))⟩) (by decide))) ac_nil)))) (fun _ => rfl)))))) (l_one (st_ret (EV.ee v_bl))) l_nil)
    (l_one (st_set (i := 7) sc_law.nd rfl (by first | exact .inl rfl | exact .inr rfl) (EV.ee (v_var 21)))))))
    (l_cons (st_if (EW.bb (w_or (b_not (b_tru (EE.oo (e_call F_law_same (hr.mono (by decide)) (by rfl) (lenC_cons (lenC_cons lenC_nil)) (ac_cons (EE.v (e_call F_turned_by (hr.mono (by decide)) (by rfl) (lenC_cons (lenC_cons (lenC_cons lenC_nil))) (ac_cons (v_var 2) (ac_cons (v_var 6) (ac_cons (EE.v (e_callT s_list call_list_of (by rfl) B.list_ (by decide +kernel) (ao_cons (o_var 5) ao_nil))) ac_nil))))) (ac_cons (v_var 7) ac_nil)))) (fun _ => rfl))) (w_or1 (b_cmp (op_neD hr.units) s_ne (o_var 6) (o_var 3) (nomark _))))) (l_one (st_ret (EV.ee v_bl))) l_nil)
    (l_cons (st_expr (e_call F_law_next (hr.mono (by decide)) (by rfl) (lenC_plc lenC_nil) (ac_plc 1 ac_nil)))
    (l_cons (sx_lc [15] (i := 10) rfl sc_law.nd rfl rfl (sw_true rfl rfl rfl (by kernel_rfl)) (i_list (v_var 3)) (blkOk_by (own := [("wheel", 15)]) (by kernel_rfl)) (fun _ _ _ _ _ => ⟨_, (g_name (i := 15) sc_law.nd rfl (by first | exact .inl rfl | exact .inr rfl))⟩) (fun _ _ _ _ _ => ⟨_, t_nil⟩) (fun _ _ _ _ _ => ⟨_, (EE.v (e_call F_law_draw (hr.mono (by decide)) (by rfl) (lenC_plc (lenC_cons lenC_nil)) (ac_plc 1 (ac_cons (v_var 8) ac_nil))))⟩) (by decide))
    (l_cons (st_set (i := 11) sc_law.nd rfl (by first | exact .inl rfl | exact .inr rfl) (e_call F_law_draw (hr.mono (by decide)) (by rfl) (lenC_plc (lenC_cons lenC_nil)) (ac_plc 1 (ac_cons v_int ac_nil))))
    (l_cons (st_set (i := 12) sc_law.nd rfl (by first | exact .inl rfl | exact .inr rfl) (EV.ee v_int))
    (l_cons (st_for PassesOwn.never rfl (i_list (v_var 10)) (g_name (i := 13) sc_law.nd rfl (by first | exact .inl rfl | exact .inr rfl)) (l_one (st_set (i := 12) sc_law.nd rfl (by first | exact .inl rfl | exact .inr rfl) (e_op op_mulG s_mul (o_var 12) (EE.oo (e_callB s_len call_lenG (by rfl) B.len_ (by decide +kernel) (ao_cons (EE.oo (x_lc [24] rfl sc_law.nd (i_rng1 (by rfl) B.range_ (ao_cons (o_var 8) ao_nil)) (blkOk_by (own := [("place", 24)]) (by kernel_rfl)) (fun _ _ _ _ _ => ⟨_, (g_name (i := 24) sc_law.nd rfl (by first | exact .inl rfl | exact .inr rfl))⟩) (fun _ _ _ _ _ => ⟨_, (t_one (b_tru (EE.oo (e_call F_law_opens (hr.mono (by decide)) (by rfl) (lenC_cons (lenC_cons (lenC_cons (lenC_cons lenC_nil)))) (ac_cons (v_var 8) (ac_cons (EE.v (e_lst (av_cons (v_var 24) av_nil))) (ac_cons (EE.v (e_lst (av_cons (v_var 13) av_nil))) (ac_cons (v_var 11) ac_nil)))))) (fun _ => rfl)))⟩) (fun _ _ _ _ _ => ⟨_, (v_var 24)⟩) (by decide))) ao_nil)))))))
    (l_cons (st_if (b_not (b_tru (EE.oo (e_call F_law_same (hr.mono (by decide)) (by rfl) (lenC_cons (lenC_cons lenC_nil)) (ac_cons (EE.v (e_lst (av_cons (EE.v (e_call F_opens (hr.mono (by decide)) (by rfl) (lenC_cons (lenC_cons (lenC_cons (lenC_cons lenC_nil)))) (ac_cons (v_var 8) (ac_cons (v_var 7) (ac_cons (v_var 10) (ac_cons (v_var 11) ac_nil)))))) (av_cons (EE.v (e_call F_opening_count (hr.mono (by decide)) (by rfl) (lenC_cons (lenC_cons (lenC_cons lenC_nil))) (ac_cons (v_var 8) (ac_cons (v_var 10) (ac_cons (v_var 11) ac_nil))))) av_nil)))) (ac_cons (EE.v (e_lst (av_cons (EE.v (e_call F_law_opens (hr.mono (by decide)) (by rfl) (lenC_cons (lenC_cons (lenC_cons (lenC_cons lenC_nil)))) (ac_cons (v_var 8) (ac_cons (v_var 7) (ac_cons (v_var 10) (ac_cons (v_var 11) ac_nil)))))) (av_cons (v_var 12) av_nil)))) ac_nil)))) (fun _ => rfl))) (l_one (st_ret (EV.ee v_bl))) l_nil)
    (l_cons (st_set (i := 5) sc_law.nd rfl (by first | exact .inl rfl | exact .inr rfl) (e_call F_enough_numbers (hr.mono (by decide)) (by rfl) (lenC_cons (lenC_cons lenC_nil)) (ac_cons (v_var 8) (ac_cons (v_var 11) ac_nil))))
    (l_cons (st_if (EW.bb (w_or (b_cmp (op_neD hr.units) s_ne (o_var 5) (EE.oo (e_callB s_sorted (call_sortedT hr.units) (by rfl) B.sorted_ (by decide +kernel) (ao_cons (EE.oo (e_call F_law_different (hr.mono (by decide)) (by rfl) (lenC_cons lenC_nil) (ac_cons (v_var 5) ac_nil))) ao_nil))) (nomark _)) (w_or1 (b_not (b_tru (EE.oo (e_callB s_all (cr_all rfl) (by rfl) B.all_ (by decide +kernel) (ao_cons (EE.oo (x_lc [24] rfl sc_law.nd (i_rng1 (by rfl) B.range_ (ao_cons (o_var 8) ao_nil)) (blkOk_by (own := [("place", 24)]) (by kernel_rfl)) (fun _ _ _ _ _ => ⟨_, (g_name (i := 24) sc_law.nd rfl (by first | exact .inl rfl | exact .inr rfl))⟩) (fun _ _ _ _ _ => ⟨_, t_nil⟩) (fun _ _ _ _ _ => ⟨_, (EE.v (e_callB s_any (cr_any rfl) (by rfl) B.any_ (by decide +kernel) (ao_cons (EE.oo (x_lc [9] rfl sc_law.nd (i_list (v_var 5)) (blkOk_by (own := [("number", 9)]) (by kernel_rfl)) (fun _ _ _ _ _ => ⟨_, (g_name (i := 9) sc_law.nd rfl (by first | exact .inl rfl | exact .inr rfl))⟩) (fun _ _ _ _ _ => ⟨_, t_nil⟩) (fun _ _ _ _ _ => ⟨_, (EE.v (e_call F_law_opens (hr.mono (by decide)) (by rfl) (lenC_cons (lenC_cons (lenC_cons (lenC_cons lenC_nil)))) (ac_cons (v_var 8) (ac_cons (EE.v (e_lst (av_cons (v_var 24) av_nil))) (ac_cons (EE.v (e_lst (av_cons (v_var 9) av_nil))) (ac_cons (v_var 11) ac_nil))))))⟩) (by decide))) ao_nil)))⟩) (by decide))) ao_nil))) (fun _ => rfl)))))) (l_one (st_ret (EV.ee v_bl))) l_nil)
    (l_cons (st_if (EW.bb (w_or (b_cmp (op_neD hr.units) s_ne (EE.oo (e_callB s_len call_lenG (by rfl) B.len_ (by decide +kernel) (ao_cons (o_var 5) ao_nil))) (EE.oo (e_un un_neg s_neg (EE.oo (e_op op_fdivG s_fdiv (EE.oo (e_un un_neg s_neg (o_var 8))) (EE.oo (e_op op_addG s_add (EE.oo (e_op op_mulG s_mul (EV.o v_int) (o_var 11))) (EV.o v_int))))))) (nomark _)) (w_or1 (b_not (b_tru (EE.oo (e_call F_law_same (hr.mono (by decide)) (by rfl) (lenC_cons (lenC_cons lenC_nil)) (ac_cons (v_var 5) (ac_cons (EE.v (x_lc [4] rfl sc_law.nd (i_rng1 (by rfl) B.range_ (ao_cons (EE.oo (e_callB s_len call_lenG (by rfl) B.len_ (by decide +kernel) (ao_cons (o_var 5) ao_nil))) ao_nil)) (blkOk_by (own := [("k", 4)]) (by kernel_rfl)) (fun _ _ _ _ _ => ⟨_, (g_name (i := 4) sc_law.nd rfl (by first | exact .inl rfl | exact .inr rfl))⟩) (fun _ _ _ _ _ => ⟨_, t_nil⟩) (fun _ _ _ _ _ => ⟨_, (EE.v (e_op op_mulG s_mul (o_var 4) (EE.oo (e_op op_addG s_add (EE.oo (e_op op_mulG s_mul (EV.o v_int) (o_var 11))) (EV.o v_int)))))⟩) (by decide))) ac_nil)))) (fun _ => rfl)))))) (l_one (st_ret (EV.ee v_bl))) l_nil)
    (l_cons (st_set (i := 14) sc_law.nd rfl (by first | exact .inl rfl | exact .inr rfl) (EV.ee v_int))
    (l_cons (st_for PassesOwn.never rfl (i_list (v_var 3)) (g_name (i := 15) sc_law.nd rfl (by first | exact .inl rfl | exact .inr rfl)) (l_one (st_set (i := 14) sc_law.nd rfl (by first | exact .inl rfl | exact .inr rfl) (e_op op_mulG s_mul (o_var 14) (EE.oo (e_callB s_len call_lenG (by rfl) B.len_ (by decide +kernel) (ao_cons (o_var 5) ao_nil)))))))
    (l_cons (st_if (b_cmp (op_neD hr.units) s_ne (EE.oo (e_call F_tries (hr.mono (by decide)) (by rfl) (lenC_cons (lenC_cons (lenC_cons lenC_nil))) (ac_cons (v_var 8) (ac_cons (EE.v (e_callB s_len call_lenG (by rfl) B.len_ (by decide +kernel) (ao_cons (o_var 3) ao_nil))) (ac_cons (v_var 11) ac_nil))))) (o_var 14) (nomark _)) (l_one (st_ret (EV.ee v_bl))) l_nil)
    (l_cons (st_set (i := 16) sc_law.nd rfl (by first | exact .inl rfl | exact .inr rfl) (e_call F_law_state_drawn (hr.mono (by decide)) (by rfl) (lenC_plc (lenC_cons lenC_nil)) (ac_plc 1 (ac_cons (v_var 2) ac_nil))))
    (l_cons (st_set (i := 17) sc_law.nd rfl (by first | exact .inl rfl | exact .inr rfl) (e_call F_way_to (hr.mono (by decide)) (by rfl) (lenC_cons (lenC_cons (lenC_cons lenC_nil))) (ac_cons (v_var 2) (ac_cons (EE.v (e_callT s_list call_list_of (by rfl) B.list_ (by decide +kernel) (ao_cons (o_var 3) ao_nil))) (ac_cons (EE.v (e_callT s_list call_list_of (by rfl) B.list_ (by decide +kernel) (ao_cons (o_var 16) ao_nil))) ac_nil)))))
    (l_cons (st_if (EW.bb (w_or (b_cmp (op_inG (hu65 hr)) s_in (EV.o v_int) (o_var 17) (by rfl)) (w_or (b_cmp op_gt s_gt (EE.oo (e_callB s_len call_lenG (by rfl) B.len_ (by decide +kernel) (ao_cons (o_var 17) ao_nil))) (EE.oo (e_op op_addG s_add (EE.oo (e_callB s_len call_lenG (by rfl) B.len_ (by decide +kernel) (ao_cons (o_var 3) ao_nil))) (EV.o v_int))) (nomark _)) (w_or1 (b_cmp (op_neD hr.units) s_ne (EE.oo (e_call F_law_clamped (hr.mono (by decide)) (by rfl) (lenC_cons (lenC_cons (lenC_cons lenC_nil))) (ac_cons (v_var 2) (ac_cons (v_var 3) (ac_cons v_int ac_nil))))) (o_var 3) (nomark _)))))) (l_one (st_ret (EV.ee v_bl))) l_nil)
    (l_cons (st_set (i := 7) sc_law.nd rfl (by first | exact .inl rfl | exact .inr rfl) (e_callT s_list call_list_of (by rfl) B.list_ (by decide +kernel) (ao_cons (o_var 3) ao_nil)))
    (l_cons (st_for PassesOwn.never rfl (i_list (v_var 17)) (g_name (i := 9) sc_law.nd rfl (by first | exact .inl rfl | exact .inr rfl)) (l_one (st_set (i := 7) sc_law.nd rfl (by first | exact .inl rfl | exact .inr rfl) (e_call F_law_clamped (hr.mono (by decide)) (by rfl) (lenC_cons (lenC_cons (lenC_cons lenC_nil))) (ac_cons (v_var 2) (ac_cons (v_var 7) (ac_cons (v_var 9) ac_nil)))))))
    (l_one (st_ret (e_cmp (op_eqD hr.units) s_eq (o_var 7) (o_var 16) (nomark _)))))))))))))))))))))))))))))))))⟩

end TR
namespace TR
open PySem L2

/-! ### wheels, plainly -/
def gi (l : List Int) (i : Nat) : Int := l.getD i 0
theorem gi_lt {l : List Int} {i : Nat} (h : i < l.length) : l[i] = gi l i := by
  unfold gi
  simp [h]
theorem at_row {l : List Int} {i : Nat} (h : i < l.length) : atI (l.map T.int) (i : Int) = some (.int (gi l i)) := by
  rw [atI_nat (by simpa using h)]
  simp [gi_lt h]
theorem at_rowI {l : List Int} {j : Int} {i : Nat} (e : j = (i : Int)) (h : i < l.length) : atI (l.map T.int) j = some (.int (gi l i)) := by
  subst e
  exact at_row h
theorem gi_map {f : Nat → Int} {n i : Nat} (h : i < n) : gi ((List.range n).map f) i = f i := by
  unfold gi
  simp [h]
theorem ext_gi {a b : List Int} (hl : a.length = b.length) (h : ∀ i, i < a.length → gi a i = gi b i) : a = b := by
  refine List.ext_getElem hl fun i h1 h2 => ?_
  rw [gi_lt h1, gi_lt h2]
  exact h i h1
/-- the place of a wheel between b - p and b, as near s as may be -/
def cl (b p s : Int) : Int := if b < (if s < b - p then b - p else s) then b else (if s < b - p then b - p else s)
def ts (ps st : List Int) (n : Int) : Nat → Int
  | 0 => gi st 0 + n
  | k + 1 => cl (ts ps st n k) (gi ps k) (gi st (k + 1))
def tnd (ps st : List Int) (n : Int) : List Int := (List.range (ps.length + 1)).map (ts ps st n)
theorem tnd_len {ps st : List Int} {n : Int} : (tnd ps st n).length = ps.length + 1 := by simp [tnd]
theorem gi_tnd {ps st : List Int} {n : Int} {i : Nat} (h : i ≤ ps.length) : gi (tnd ps st n) i = ts ps st n i := gi_map (by omega)
/-- plays that are not below 0 -/
def Pl (ps : List Int) : Prop := ∀ i, i < ps.length → 0 ≤ gi ps i
def Sta (ps st : List Int) : Prop := st.length = ps.length + 1 ∧ ∀ i, i < ps.length → 0 ≤ gi st i - gi st (i + 1) ∧ gi st i - gi st (i + 1) ≤ gi ps i
theorem ts_step {ps st : List Int} {n : Int} (hp : Pl ps) {k : Nat} (h : k < ps.length) : 0 ≤ ts ps st n k - ts ps st n (k + 1) ∧ ts ps st n k - ts ps st n (k + 1) ≤ gi ps k := by
  have := hp k h
  rw [ts]
  generalize ts ps st n k = b
  unfold cl
  (repeat' split) <;> omega
theorem sta_tnd {ps st : List Int} {n : Int} (hp : Pl ps) : Sta ps (tnd ps st n) :=
  ⟨tnd_len, fun i h => by rw [gi_tnd (by omega), gi_tnd (by omega)]; exact ts_step hp h⟩
theorem ts_zero {ps st : List Int} (hs : Sta ps st) : ∀ k, k ≤ ps.length → ts ps st 0 k = gi st k
  | 0, _ => by rw [ts]; omega
  | k + 1, h => by
    have h1 := hs.2 k (by omega)
    rw [ts, ts_zero hs k (by omega)]
    unfold cl
    (repeat' split) <;> omega
theorem tnd_zero {ps st : List Int} (hs : Sta ps st) : tnd ps st 0 = st :=
  ext_gi (by rw [tnd_len, hs.1]) fun i h => by
    rw [tnd_len] at h
    rw [gi_tnd (by omega), ts_zero hs i (by omega)]
theorem ts_mono {ps st : List Int} {n m : Int} (h : n ≤ m) : ∀ k, ts ps st n k ≤ ts ps st m k
  | 0 => by rw [ts, ts]; omega
  | k + 1 => by
    have ih := ts_mono (ps := ps) (st := st) h k
    rw [ts, ts]
    generalize ts ps st n k = b at *
    generalize ts ps st m k = b' at *
    unfold cl
    (repeat' split) <;> omega
/-- two turns one after the other, the same way -/
theorem ts_up {ps st : List Int} (hp : Pl ps) (hs : Sta ps st) {n m : Int} (h0 : 0 ≤ n) (h1 : 0 ≤ m) : ∀ k, k ≤ ps.length → ts ps (tnd ps st n) m k = ts ps st (n + m) k
  | 0, _ => by rw [ts, gi_tnd (Nat.zero_le _), ts, ts]; omega
  | k + 1, h => by
    have ih := ts_up hp hs h0 h1 k (by omega)
    have a1 := ts_mono (ps := ps) (st := st) (n := n) (m := n + m) (by omega) k
    have a2 := ts_mono (ps := ps) (st := st) (n := 0) (m := n) h0 k
    rw [ts_zero hs k (by omega)] at a2
    have a3 := hs.2 k (by omega)
    have a4 := hp k (by omega)
    rw [ts, ih, gi_tnd h, ts, ts]
    generalize ts ps st n k = b at *
    generalize ts ps st (n + m) k = b' at *
    unfold cl
    (repeat' split) <;> omega
theorem ts_dn {ps st : List Int} (hp : Pl ps) (hs : Sta ps st) {n m : Int} (h0 : n ≤ 0) (h1 : m ≤ 0) : ∀ k, k ≤ ps.length → ts ps (tnd ps st n) m k = ts ps st (n + m) k
  | 0, _ => by rw [ts, gi_tnd (Nat.zero_le _), ts, ts]; omega
  | k + 1, h => by
    have ih := ts_dn hp hs h0 h1 k (by omega)
    have a1 := ts_mono (ps := ps) (st := st) (n := n + m) (m := n) (by omega) k
    have a2 := ts_mono (ps := ps) (st := st) (n := n) (m := 0) h0 k
    rw [ts_zero hs k (by omega)] at a2
    have a3 := hs.2 k (by omega)
    have a4 := hp k (by omega)
    rw [ts, ih, gi_tnd h, ts, ts]
    generalize ts ps st n k = b at *
    generalize ts ps st (n + m) k = b' at *
    unfold cl
    (repeat' split) <;> omega
theorem tnd_up {ps st : List Int} (hp : Pl ps) (hs : Sta ps st) {n m : Int} (h0 : 0 ≤ n) (h1 : 0 ≤ m) : tnd ps (tnd ps st n) m = tnd ps st (n + m) :=
  List.map_congr_left fun k h => ts_up hp hs h0 h1 k (by have := List.mem_range.mp h; omega)
theorem tnd_dn {ps st : List Int} (hp : Pl ps) (hs : Sta ps st) {n m : Int} (h0 : n ≤ 0) (h1 : m ≤ 0) : tnd ps (tnd ps st n) m = tnd ps st (n + m) :=
  List.map_congr_left fun k h => ts_dn hp hs h0 h1 k (by have := List.mem_range.mp h; omega)
/-- one step: each wheel goes along or stands -/
theorem ts_one {ps st : List Int} (hs : Sta ps st) {e : Int} (he : e = 1 ∨ e = -1) : ∀ k, k ≤ ps.length → ts ps st e k = gi st k ∨ ts ps st e k = gi st k + e
  | 0, _ => .inr rfl
  | k + 1, h => by
    have ih := ts_one hs he k (by omega)
    have a3 := hs.2 k (by omega)
    rw [ts]
    generalize ts ps st e k = b at *
    unfold cl
    (repeat' split) <;> rcases he with rfl | rfl <;> rcases ih with ih | ih <;> omega
theorem ts_one_if {ps st : List Int} (hp : Pl ps) (hs : Sta ps st) {e : Int} (he : e = 1 ∨ e = -1) {k : Nat} (h : k < ps.length) :
    ts ps st e (k + 1) = if (ts ps st e k - gi st (k + 1) > gi ps k ∨ gi st (k + 1) > ts ps st e k) then gi st (k + 1) + e else gi st (k + 1) := by
  have ih := ts_one hs he k (by omega)
  have a3 := hs.2 k h
  have a4 := hp k h
  rw [ts]
  generalize ts ps st e k = b at *
  unfold cl
  (repeat' split) <;> rcases he with rfl | rfl <;> rcases ih with ih | ih <;> omega
theorem ts_shift {ps st : List Int} {n c : Int} : ∀ k, k < st.length → ts ps (st.map (· + c)) n k = ts ps st n k + c
  | 0, h => by
    have e : gi (st.map (· + c)) 0 = gi st 0 + c := by unfold gi; simp [h]
    rw [ts, ts, e]
    omega
  | k + 1, h => by
    have e : gi (st.map (· + c)) (k + 1) = gi st (k + 1) + c := by unfold gi; simp [h]
    rw [ts, ts, e, ts_shift k (by omega)]
    generalize ts ps st n k = b
    unfold cl
    (repeat' split) <;> omega
theorem tnd_shift {ps st : List Int} {n c : Int} (hs : st.length = ps.length + 1) : tnd ps (st.map (· + c)) n = (tnd ps st n).map (· + c) := by
  unfold tnd
  rw [List.map_map]
  refine List.map_congr_left fun k h => ts_shift k ?_
  have := List.mem_range.mp h
  omega
/-! ### the way to a goal -/
def Sm (ps : List Int) (k : Nat) : Int := (ps.take k).sum
theorem Sm_succ {ps : List Int} {k : Nat} (h : k < ps.length) : Sm ps (k + 1) = Sm ps k + gi ps k := by
  unfold Sm
  rw [List.take_succ, List.getElem?_eq_getElem h, List.sum_append, gi_lt h]
  simp
theorem Sm_mono {ps : List Int} (hp : Pl ps) {i : Nat} : ∀ {j : Nat}, i ≤ j → j ≤ ps.length → Sm ps i ≤ Sm ps j
  | 0, h, _ => by rw [show i = 0 by omega]; omega
  | j + 1, h, h2 => by
    by_cases e : i = j + 1
    · rw [e]; omega
    · have := Sm_mono hp (i := i) (j := j) (by omega) (by omega)
      have := hp j (by omega)
      rw [Sm_succ (by omega)]
      omega
/-- the wheels when those from t on stand at the goal -/
def Wy (ps g : List Int) (t : Nat) (up : Bool) (k : Nat) : Int := if t ≤ k then gi g k else if up = true then gi g t + Sm ps t - Sm ps k else gi g t
def fst' (ps g : List Int) (t : Nat) (up : Bool) : Int := gi g t + if up = true then Sm ps t else 0
theorem Sta.anti {ps g : List Int} (hs : Sta ps g) {i : Nat} : ∀ {j : Nat}, i ≤ j → j ≤ ps.length → gi g j ≤ gi g i
  | 0, h, _ => by rw [show i = 0 by omega]; omega
  | j + 1, h, h2 => by
    by_cases e : i = j + 1
    · rw [e]; omega
    · have := hs.anti (i := i) (j := j) (by omega) (by omega)
      have := hs.2 j (by omega)
      omega
theorem wy_zero {ps g : List Int} {t : Nat} {up : Bool} : Wy ps g t up 0 = fst' ps g t up := by
  unfold Wy fst'
  by_cases h : t ≤ 0
  · have e : t = 0 := by omega
    subst e
    cases up <;> simp [Sm]
  · rw [if_neg h]
    cases up <;> simp [Sm]
theorem wy_step {ps g : List Int} (hp : Pl ps) (hs : Sta ps g) {t : Nat} (ht : t < ps.length) {up : Bool} {st : List Int} (hst : ∀ k, k ≤ ps.length → gi st k = Wy ps g (t + 1) up k) :
    ∀ k, k ≤ ps.length → ts ps st (fst' ps g t (!up) - gi st 0) k = Wy ps g t (!up) k
  | 0, _ => by rw [ts, wy_zero]; omega
  | k + 1, h => by
    have ih := wy_step hp hs ht hst k (by omega)
    rw [ts, ih, hst (k + 1) h]
    have a1 := hp k (by omega)
    have a2 := hs.2 k (by omega)
    have a3 := hs.2 t (by omega)
    have a4 := Sm_succ (ps := ps) (k := k) (by omega)
    have a5 := Sm_succ (ps := ps) (k := t) (by omega)
    unfold Wy cl
    by_cases c1 : t ≤ k
    · by_cases c2 : k = t
      · subst c2
        simp only [Nat.le_refl, if_true, Nat.le_add_right, if_true]
        (repeat' split) <;> omega
      · have c3 : t + 1 ≤ k := by omega
        have c4 : t + 1 ≤ k + 1 := by omega
        have c5 : t ≤ k + 1 := by omega
        simp only [c1, c4, c5, if_true]
        (repeat' split) <;> omega
    · have c4 : ¬ t + 1 ≤ k + 1 := by omega
      by_cases c5 : t = k + 1
      · subst c5
        cases up
        · simp only [c1, c4, if_false, Bool.not_false, if_true, Nat.le_refl, Bool.false_eq_true]
          (repeat' split) <;> omega
        · simp only [c1, c4, if_false, Bool.not_true, if_true, Nat.le_refl, Bool.false_eq_true]
          (repeat' split) <;> omega
      · have c6 : ¬ t ≤ k + 1 := by omega
        have b1 := Sm_mono hp (i := k + 1) (j := t) (by omega) (by omega)
        cases up
        · simp only [c1, c4, c6, if_false, Bool.not_false, if_true, Bool.false_eq_true]
          (repeat' split) <;> omega
        · simp only [c1, c4, c6, if_false, Bool.not_true, if_true, Bool.false_eq_true]
          (repeat' split) <;> omega
/-- the first of all: down, and up again -/
theorem wy_first {ps g st : List Int} (hp : Pl ps) (hst : Sta ps st) (hg : Sta ps g) {lo : Int} (h1 : gi st 0 ≤ lo) (h2 : lo < fst' ps g ps.length true - Sm ps ps.length) :
    ∀ k, k ≤ ps.length → ts ps st (fst' ps g ps.length true - gi st 0) k = Wy ps g ps.length true k
  | 0, _ => by rw [ts, wy_zero]; omega
  | k + 1, h => by
    have ih := wy_first hp hst hg h1 h2 k (by omega)
    have a0 := hst.anti (i := 0) (j := k + 1) (by omega) h
    have a1 := hp k (by omega)
    have a4 := Sm_succ (ps := ps) (k := k) (by omega)
    have b1 := Sm_mono hp (i := k + 1) (j := ps.length) h (Nat.le_refl _)
    rw [ts, ih]
    unfold Wy cl
    unfold fst' at h2
    simp only [if_true] at h2
    have c1 : ¬ ps.length ≤ k := by omega
    simp only [c1, if_false, if_true]
    by_cases c : ps.length ≤ k + 1
    · have e : k + 1 = ps.length := by omega
      simp only [c, if_true]
      rw [e] at a4 b1 a0 ⊢
      (repeat' split) <;> omega
    · simp only [c, if_false]
      (repeat' split) <;> omega
end TR

namespace TR
open PySem L2

abbrev tsL (ps st : List Int) (n : Int) (k : Nat) : List T := (List.range k).map fun i => T.int (ts ps st n i)
theorem tsL_succ {ps st : List Int} {n : Int} {k : Nat} : tsL ps st n k ++ [.int (ts ps st n k)] = tsL ps st n (k + 1) := by
  unfold tsL
  rw [List.range_succ, List.map_append]
  rfl
theorem tsL_len {ps st : List Int} {n : Int} {k : Nat} : (tsL ps st n k).length = k := by simp
theorem tsL_last {ps st : List Int} {n : Int} {k : Nat} : atI (tsL ps st n (k + 1)) (-1) = some (.int (ts ps st n k)) := by
  rw [atI_last (by simp)]
  simp
theorem tsL_at {ps st : List Int} {n : Int} {k i : Nat} (h : i < k) : atI (tsL ps st n k) (i : Int) = some (.int (ts ps st n i)) := by
  rw [atI_nat (by simpa using h)]
  simp
theorem tnd_eLI {ps st : List Int} {n : Int} : eLI (tnd ps st n) = .lst (tsL ps st n (ps.length + 1)) := by
  unfold eLI tnd tsL
  rw [List.map_map]
  rfl
theorem one_lt_line : 1000 < sizeLine := by decide
theorem turned_ok (ps st : List Int) (n : Int) (hl : st.length = ps.length + 1) (hz : ps.length ≤ 900) :
    f_turned [.fr (eLI ps), .fr (eLI st), .fr (.int n)] = some (⟨eLI (tnd ps st n), true⟩, [.fr (eLI ps), .fr (eLI st), .fr (.int n)]) := by
  have a0 : atI (st.map T.int) 0 = some (.int (gi st 0)) := at_rowI (i := 0) (by omega) (by omega)
  have key : ∃ s4 s5 s6, loopS (gT (gsCons (gN 4) (gsCons (gN 5) gsNil))) turned_p2b (enuT 0 (ps.map T.int)) [.fr (eLI ps), .fr (eLI st), .fr (.int n), .ow (.lst (tsL ps st n 1)), .no, .no, .no] =
      some (.nx [.fr (eLI ps), .fr (eLI st), .fr (.int n), .ow (.lst (tsL ps st n (ps.length + 1))), s4, s5, s6]) := by
    obtain ⟨τ', h, s4, s5, s6, g4, g5, g6, rfl⟩ := loopS_inv (g := gT (gsCons (gN 4) (gsCons (gN 5) gsNil))) (body := turned_p2b)
      (fun i τ => ∃ s4 s5 s6, s4.isLn = false ∧ s5.isLn = false ∧ s6.isLn = false ∧ τ = [.fr (eLI ps), .fr (eLI st), .fr (.int n), .ow (.lst (tsL ps st n (i + 1))), s4, s5, s6]) (enuT 0 (ps.map T.int)) 0
      (fun i d τ hd hI => by
        rw [Nat.zero_add] at hI ⊢
        obtain ⟨s4, s5, s6, g4, g5, g6, rfl⟩ := hI
        rw [enuT_get] at hd
        obtain ⟨d', hd', rfl⟩ := Option.map_eq_some_iff.mp hd
        have hi : i < ps.length := by
          have := (List.getElem?_eq_some_iff.mp hd').1
          simpa using this
        have ed : d' = .int (gi ps i) := by
          rw [List.getElem?_map, List.getElem?_eq_getElem hi, gi_lt hi] at hd'
          cases hd'
          rfl
        subst ed
        rw [Nat.zero_add]
        have a1 : atI (st.map T.int) ((i : Int) + 1) = some (.int (gi st (i + 1))) := at_rowI (i := i + 1) (by omega) (by omega)
        have a2 := tsL_last (ps := ps) (st := st) (n := n) (k := i)
        have a3 := tsL_succ (ps := ps) (st := st) (n := n) (k := i + 1)
        have a4 : (tsL ps st n (i + 1)).length < sizeLine := by rw [tsL_len]; have := one_lt_line; omega
        have a5 : ts ps st n (i + 1) = cl (ts ps st n i) (gi ps i) (gi st (i + 1)) := rfl
        unfold cl at a5
        rw [a5] at a3
        generalize tsL ps st n (i + 1) = X at *
        generalize tsL ps st n (i + 1 + 1) = Y at *
        generalize ts ps st n i = b at *
        refine ⟨_, ?_, .fr (.int (i : Nat)), .fr (.int (gi ps i)), .fr (.int b), rfl, rfl, rfl, rfl⟩
        generalize ((i : Nat) : Int) = I at *
        simp [turned_p2b, turned_p2b1, turned_p2b2, g4, g5, g6, a1, a2, a4, a3]) _ ⟨.no, .no, .no, rfl, rfl, rfl, rfl⟩
    rw [enuT_length, List.length_map] at h
    simp only [Nat.zero_add] at h
    exact ⟨s4, s5, s6, h⟩
  obtain ⟨s4, s5, s6, key⟩ := key
  have e1 : tsL ps st n 1 = [.int (gi st 0 + n)] := rfl
  rw [e1] at key
  rw [tnd_eLI]
  generalize tsL ps st n (ps.length + 1) = Z at *
  unfold f_turned
  rw [b_turned_eq]
  have sz1 : 1 ≤ sizeLine := by decide
  simp [turned_p, turned_p1, turned_p2, a0, key, sz1]
/-! ### the same by the law's own words -/
theorem cl_alt {b p s : Int} (hp : 0 ≤ p) : (if s < b - p then b - p else if b < s then b else s) = cl b p s := by
  unfold cl
  (repeat' split) <;> omega
theorem clamped_ok (ps st : List Int) (n : Int) (hp : Pl ps) (hl : st.length = ps.length + 1) (hz : ps.length ≤ 900) :
    f_law_clamped [.fr (eLI ps), .fr (eLI st), .fr (.int n)] = some (⟨eLI (tnd ps st n), true⟩, [.fr (eLI ps), .fr (eLI st), .fr (.int n)]) := by
  have a0 : atI (st.map T.int) 0 = some (.int (gi st 0)) := at_rowI (i := 0) (by omega) (by omega)
  have key : ∃ s4 s5 s6, loopS (gN 4) law_clamped_p2b (rngT 0 ps.length) [.fr (eLI ps), .fr (eLI st), .fr (.int n), .ow (.lst (tsL ps st n 1)), .no, .no, .no] =
      some (.nx [.fr (eLI ps), .fr (eLI st), .fr (.int n), .ow (.lst (tsL ps st n (ps.length + 1))), s4, s5, s6]) := by
    obtain ⟨τ', h, s4, s5, s6, g4, g5, g6, rfl⟩ := loopS_inv (g := gN 4) (body := law_clamped_p2b)
      (fun i τ => ∃ s4 s5 s6, s4.isLn = false ∧ s5.isLn = false ∧ s6.isLn = false ∧ τ = [.fr (eLI ps), .fr (eLI st), .fr (.int n), .ow (.lst (tsL ps st n (i + 1))), s4, s5, s6]) (rngT 0 ps.length) 0
      (fun i d τ hd hI => by
        rw [Nat.zero_add] at hI ⊢
        obtain ⟨s4, s5, s6, g4, g5, g6, rfl⟩ := hI
        have hi : i < ps.length := by
          have := (List.getElem?_eq_some_iff.mp hd).1
          rw [rngT_length] at this
          exact this
        have e : d = .int (i : Nat) := by
          rw [rngT_get _ _ _ hi] at hd
          cases hd
          congr 1
          omega
        subst e
        have a1 : atI (st.map T.int) ((i : Int) + 1) = some (.int (gi st (i + 1))) := at_rowI (i := i + 1) (by omega) (by omega)
        have a2 := tsL_at (ps := ps) (st := st) (n := n) (k := i + 1) (i := i) (by omega)
        have a3 := tsL_succ (ps := ps) (st := st) (n := n) (k := i + 1)
        have a4 : (tsL ps st n (i + 1)).length < sizeLine := by rw [tsL_len]; have := one_lt_line; omega
        have a5 : ts ps st n (i + 1) = cl (ts ps st n i) (gi ps i) (gi st (i + 1)) := rfl
        have a6 : atI (ps.map T.int) (i : Int) = some (.int (gi ps i)) := at_row hi
        rw [← cl_alt (hp i hi)] at a5
        rw [a5] at a3
        generalize tsL ps st n (i + 1) = X at *
        generalize tsL ps st n (i + 1 + 1) = Y at *
        generalize ts ps st n i = b at *
        refine ⟨_, ?_, .fr (.int (i : Nat)), .fr (.int (gi st (i + 1))), .fr (.int (b - gi ps i)), rfl, rfl, rfl, rfl⟩
        generalize ((i : Nat) : Int) = I at *
        by_cases c : gi st (i + 1) < b - gi ps i
        · simp only [c, if_true] at a3
          simp [law_clamped_p2b, law_clamped_p2b1, law_clamped_p2b2, law_clamped_p2b3, g4, g5, g6, a1, a2, a4, a3, a6, c]
        · by_cases c2 : b < gi st (i + 1)
          · simp only [c, c2, if_true, if_false] at a3
            simp [law_clamped_p2b, law_clamped_p2b1, law_clamped_p2b2, law_clamped_p2b3, g4, g5, g6, a1, a2, a4, a3, a6, c, c2]
          · simp only [c, c2, if_false] at a3
            simp [law_clamped_p2b, law_clamped_p2b1, law_clamped_p2b2, law_clamped_p2b3, g4, g5, g6, a1, a2, a4, a3, a6, c, c2]) _ ⟨.no, .no, .no, rfl, rfl, rfl, rfl⟩
    rw [rngT_length] at h
    simp only [Nat.zero_add] at h
    exact ⟨s4, s5, s6, h⟩
  obtain ⟨s4, s5, s6, key⟩ := key
  have e1 : tsL ps st n 1 = [.int (gi st 0 + n)] := rfl
  rw [e1] at key
  rw [tnd_eLI]
  generalize tsL ps st n (ps.length + 1) = Z at *
  have sz1 : 1 ≤ sizeLine := by decide
  have r1 := rgOk_n ps.length (by omega)
  have r2 : rgOk 0 = true := by decide +kernel
  unfold f_law_clamped
  rw [b_law_clamped_eq]
  simp [law_clamped_p, law_clamped_p1, law_clamped_p2, a0, key, sz1, r1, r2]
end TR

namespace TR
open PySem L2

def hyb (ps st : List Int) (e : Int) (k : Nat) : List T := (List.range (ps.length + 1)).map fun j => T.int (if j ≤ k then ts ps st e j else gi st j)
theorem hyb_len {ps st : List Int} {e : Int} {k : Nat} : (hyb ps st e k).length = ps.length + 1 := by simp [hyb]
theorem hyb_at {ps st : List Int} {e : Int} {k j : Nat} (h : j ≤ ps.length) : atI (hyb ps st e k) (j : Int) = some (.int (if j ≤ k then ts ps st e j else gi st j)) := by
  rw [atI_nat (by rw [hyb_len]; omega)]
  simp [hyb]
theorem hyb_set {ps st : List Int} {e : Int} {k : Nat} : (hyb ps st e k).set (k + 1) (.int (ts ps st e (k + 1))) = hyb ps st e (k + 1) := by
  unfold hyb
  refine List.ext_getElem (by simp) fun i h1 h2 => ?_
  rw [List.getElem_set]
  simp only [List.getElem_map, List.getElem_range]
  by_cases c : k + 1 = i
  · subst c
    simp
  · rw [if_neg c]
    by_cases c2 : i ≤ k
    · rw [if_pos c2, if_pos (by omega)]
    · rw [if_neg c2, if_neg (by omega)]
theorem hyb_stay {ps st : List Int} {e : Int} {k : Nat} (h : ts ps st e (k + 1) = gi st (k + 1)) : hyb ps st e k = hyb ps st e (k + 1) := by
  unfold hyb
  refine List.map_congr_left fun i _ => ?_
  by_cases c2 : i ≤ k
  · rw [if_pos c2, if_pos (by omega)]
  · by_cases c : i = k + 1
    · subst c
      rw [if_neg c2, if_pos (Nat.le_refl _), h]
    · rw [if_neg c2, if_neg (by omega)]
theorem hyb_all {ps st : List Int} {e : Int} : hyb ps st e ps.length = (tnd ps st e).map T.int := by
  unfold hyb tnd
  rw [List.map_map]
  refine List.map_congr_left fun i h => ?_
  rw [if_pos (by have := List.mem_range.mp h; omega)]
  rfl
theorem hyb_first {ps st : List Int} {e : Int} (hl : st.length = ps.length + 1) : (st.map T.int).set 0 (.int (gi st 0 + e)) = hyb ps st e 0 := by
  refine List.ext_getElem (by simp [hyb, hl]) fun i h1 h2 => ?_
  rw [List.getElem_set]
  simp only [hyb, List.getElem_map, List.getElem_range]
  by_cases c : 0 = i
  · subst c
    simp [ts]
  · rw [if_neg c, if_neg (by omega), gi_lt]
section
variable (ps st0 : List Int) (n : Int)
abbrev sS (f s4 s5 s6 : Sl) : Sls := [.fr (eLI ps), .fr (eLI st0), .fr (.int n), f, s4, s5, s6]
theorem inner_ok {st : List Int} {e : Int} (he : e = 1 ∨ e = -1) (hp : Pl ps) (hs : Sta ps st) (hz : ps.length ≤ 900) (s4 s6 : Sl) (g6 : s6.isLn = false) :
    ∃ s6', s6'.isLn = false ∧ law_stepped_p2b3 (sS ps st0 n (.ow (.lst (hyb ps st e 0))) s4 (.fr (.int e)) s6) = some (.nx (sS ps st0 n (.ow (.lst ((tnd ps st e).map T.int))) s4 (.fr (.int e)) s6')) := by
  obtain ⟨τ', h, s6', g6', rfl⟩ := loopS_inv (g := gN 6) (body := law_stepped_p2b3b)
    (fun k τ => ∃ s6, s6.isLn = false ∧ τ = sS ps st0 n (.ow (.lst (hyb ps st e k))) s4 (.fr (.int e)) s6) (rngT 0 ps.length) 0
    (fun i d τ hd hI => by
      rw [Nat.zero_add] at hI ⊢
      obtain ⟨s6, g6, rfl⟩ := hI
      have hi : i < ps.length := by
        have := (List.getElem?_eq_some_iff.mp hd).1
        rw [rngT_length] at this
        exact this
      have ed : d = .int (i : Nat) := by
        rw [rngT_get _ _ _ hi] at hd
        cases hd
        congr 1
        omega
      subst ed
      have b1 := hyb_at (ps := ps) (st := st) (e := e) (k := i) (j := i) (by omega)
      have b2 := hyb_at (ps := ps) (st := st) (e := e) (k := i) (j := i + 1) (by omega)
      rw [if_pos (Nat.le_refl _)] at b1
      rw [if_neg (by omega)] at b2
      have b2' : atI (hyb ps st e i) ((i : Int) + 1) = some (.int (gi st (i + 1))) := b2
      have b3 : ixN (hyb ps st e i).length ((i : Int) + 1) = some (i + 1) := by
        rw [hyb_len]
        show ixN (ps.length + 1) ((i + 1 : Nat) : Int) = _
        exact ixN_nat (by omega)
      have b4 := hyb_set (ps := ps) (st := st) (e := e) (k := i)
      have b5 := hyb_stay (ps := ps) (st := st) (e := e) (k := i)
      have b6 := ts_one_if hp hs he hi
      have b7 := at_row hi
      refine ⟨sS ps st0 n (.ow (.lst (hyb ps st e (i + 1)))) s4 (.fr (.int e)) (.fr (.int (i : Nat))), ?_, _, rfl, rfl⟩
      generalize hyb ps st e i = X at *
      generalize hyb ps st e (i + 1) = Y at *
      generalize ts ps st e (i + 1) = v at *
      generalize ts ps st e i = b at *
      generalize gi st (i + 1) = w at *
      generalize gi ps i = q at *
      have e0 : ∀ Z, sS ps st0 n (.ow (.lst Z)) s4 (.fr (.int e)) (.fr (.int (i : Nat))) = [.fr (eLI ps), .fr (eLI st0), .fr (.int n), .ow (.lst Z), s4, .fr (.int e), .fr (.int (i : Nat))] := fun Z => rfl
      generalize ((i : Nat) : Int) = I at *
      by_cases c1 : q < b - w
      · rw [if_pos (Or.inl c1)] at b6
        subst b6
        simp [law_stepped_p2b3b, g6, b1, b2', b3, b7, c1, b4]
      · by_cases c2 : b < w
        · rw [if_pos (Or.inr c2)] at b6
          subst b6
          simp [law_stepped_p2b3b, g6, b1, b2', b3, b7, c1, c2, b4]
        · rw [if_neg (by omega)] at b6
          rw [← b5 b6]
          simp [law_stepped_p2b3b, g6, b1, b2', b3, b7, c1, c2]) _ ⟨s6, g6, rfl⟩
  rw [rngT_length, Nat.zero_add, hyb_all] at h
  have r1 := rgOk_n ps.length (by omega)
  have r2 : rgOk 0 = true := by decide +kernel
  refine ⟨s6', g6', ?_⟩
  generalize hyb ps st e 0 = X at *
  generalize (tnd ps st e).map T.int = Y at *
  simp [law_stepped_p2b3, r1, r2, h]
theorem stepped_ok (hp : Pl ps) (hs : Sta ps st0) (hz : ps.length ≤ 900) (hn : -1000 ≤ n) (hn2 : n ≤ 1000) :
    f_law_stepped [.fr (eLI ps), .fr (eLI st0), .fr (.int n)] = some (⟨eLI (tnd ps st0 n), true⟩, [.fr (eLI ps), .fr (eLI st0), .fr (.int n)]) := by
  have r1 : rgOk (if n < -n then -n else n) = true := rgOk_i _ (by split <;> omega) (by split <;> omega)
  have r2 : rgOk 0 = true := by decide +kernel
  obtain ⟨e, he, hee, hen⟩ : ∃ e : Int, (if 0 < n then (1 : Int) else -1) = e ∧ (e = 1 ∨ e = -1) ∧ n = e * ((if n < -n then -n else n).toNat : Int) ∧ True := by
    by_cases c : 0 < n
    · refine ⟨1, by rw [if_pos c], .inl rfl, ?_, trivial⟩
      rw [if_neg (by omega)]
      omega
    · refine ⟨-1, by rw [if_neg c], .inr rfl, ?_, trivial⟩
      by_cases c2 : n < -n
      · rw [if_pos c2]; omega
      · rw [if_neg c2]; omega
  have hen := hen.1
  generalize hm : (if n < -n then -n else n) = m at *
  have hm0 : 0 ≤ m := by rw [← hm]; split <;> omega
  have a0 : (listG [eLI st0]) = some ⟨eLI st0, true⟩ := rfl
  have key : ∃ s4 s5 s6, loopS (gN 4) law_stepped_p2b (rngT 0 m.toNat) (sS ps st0 n (.ow (eLI st0)) .no .no .no) =
      some (.nx (sS ps st0 n (.ow (eLI (tnd ps st0 n))) s4 s5 s6)) := by
    obtain ⟨τ', h, s4, s5, s6, g4, g5, g6, rfl⟩ := loopS_inv (g := gN 4) (body := law_stepped_p2b)
      (fun i τ => ∃ s4 s5 s6, s4.isLn = false ∧ s5.isLn = false ∧ s6.isLn = false ∧ τ = sS ps st0 n (.ow (eLI (tnd ps st0 (e * (i : Int))))) s4 s5 s6) (rngT 0 m.toNat) 0
      (fun i d τ hd hI => by
        rw [Nat.zero_add] at hI ⊢
        obtain ⟨s4, s5, s6, g4, g5, g6, rfl⟩ := hI
        have hs' := sta_tnd (st := st0) (n := e * (i : Int)) hp
        have hnext : tnd ps (tnd ps st0 (e * (i : Int))) e = tnd ps st0 (e * ((i + 1 : Nat) : Int)) := by
          rcases hee with rfl | rfl
          · rw [tnd_up hp hs (by omega) (by omega)]
            congr 1
          · rw [tnd_dn hp hs (by omega) (by omega)]
            congr 1
            omega
        have hf := hyb_first (ps := ps) (st := tnd ps st0 (e * (i : Int))) (e := e) tnd_len
        have hl' := tnd_len (ps := ps) (st := st0) (n := e * (i : Int))
        rw [← hnext]
        generalize tnd ps st0 (e * (i : Int)) = st at *
        have a1 : atI (st.map T.int) 0 = some (.int (gi st 0)) := at_rowI (i := 0) (by omega) (by omega)
        have a2 : ixN st.length 0 = some 0 := ixN_nat (i := 0) (by omega)
        obtain ⟨s6', g6', hin⟩ := inner_ok ps st0 n hee hp hs' hz (.fr d) s6 g6
        refine ⟨_, ?_, .fr d, .fr (.int e), s6', rfl, rfl, g6', rfl⟩
        have e1 : law_stepped_p2b1 (sS ps st0 n (.ow (eLI st)) (.fr d) s5 s6) = some (.nx (sS ps st0 n (.ow (eLI st)) (.fr d) (.fr (.int e)) s6)) := by
          by_cases c : 0 < n
          · rw [if_pos c] at he
            subst he
            simp [law_stepped_p2b1, c, g5]
          · rw [if_neg c] at he
            subst he
            simp [law_stepped_p2b1, c, g5]
        have e2 : law_stepped_p2b2 (sS ps st0 n (.ow (eLI st)) (.fr d) (.fr (.int e)) s6) = some (.nx (sS ps st0 n (.ow (.lst (hyb ps st e 0))) (.fr d) (.fr (.int e)) s6)) := by
          generalize hyb ps st e 0 = X at *
          simp [law_stepped_p2b2, a1, a2, hf]
        have e0 : gN 4 d (sS ps st0 n (.ow (eLI st)) s4 s5 s6) = some (sS ps st0 n (.ow (eLI st)) (.fr d) s5 s6) := by simp [g4]
        rw [e0, Option.bind_some]
        unfold law_stepped_p2b
        exact sq_nx e1 (sq_nx e2 hin)) _ ⟨.no, .no, .no, rfl, rfl, rfl, by
          have : e * ((0 : Nat) : Int) = 0 := by simp
          rw [this, tnd_zero hs]⟩
    rw [rngT_length] at h
    refine ⟨s4, s5, s6, ?_⟩
    rw [h, Nat.zero_add, ← hen]
  obtain ⟨s4, s5, s6, key⟩ := key
  unfold f_law_stepped
  rw [b_law_stepped_eq]
  simp [law_stepped_p, law_stepped_p1, law_stepped_p2, a0, key, r1, r2, hm]
end
end TR

namespace TR
open PySem L2

def tby (ps st : List Int) (ns : List Int) : List Int := ns.foldl (tnd ps) st
theorem turned_by_ok (ps st ns : List Int) (hl : st.length = ps.length + 1) (hz : ps.length ≤ 900) :
    f_turned_by [.fr (eLI ps), .fr (eLI st), .fr (eLI ns)] = some (⟨eLI (tby ps st ns), true⟩, [.fr (eLI ps), .fr (eLI st), .fr (eLI ns)]) := by
  obtain ⟨τ', h, _, s4, g4, rfl⟩ := loopS_rel (g := gN 4) (body := turned_by_p2b) (fun (s : List Int) τ => s.length = ps.length + 1 ∧ ∃ s4, s4.isLn = false ∧ τ = [.fr (eLI ps), .fr (eLI st), .fr (eLI ns), .ow (eLI s), s4]) T.int (tnd ps) ns
    (fun s τ x _ ⟨hs, s4, g4, e⟩ => by
      subst e
      have ht := turned_ok ps s x hs hz
      have hn : (tnd ps s x).length = ps.length + 1 := tnd_len
      refine ⟨_, ?_, hn, .fr (.int x), rfl, rfl⟩
      generalize tnd ps s x = y at *
      simp [turned_by_p2b, g4, ht]) st [.fr (eLI ps), .fr (eLI st), .fr (eLI ns), .ow (eLI st), .no] ⟨hl, .no, rfl, rfl⟩
  change loopS _ _ _ _ = some (.nx [.fr (eLI ps), .fr (eLI st), .fr (eLI ns), .ow (eLI (tby ps st ns)), s4]) at h
  generalize tby ps st ns = Y at *
  unfold f_turned_by
  rw [b_turned_by_eq]
  simp [turned_by_p, turned_by_p1, turned_by_p2, h]
/-- the mark is too far from the gate -/
def far (m t a b : Int) : Bool := decide (t < (if m - (a - b).fmod m < (a - b).fmod m then m - (a - b).fmod m else (a - b).fmod m))
theorem far_alt {m t a b : Int} : (decide (t < (a - b).fmod m) && decide (t < m - (a - b).fmod m)) = far m t a b := by
  unfold far
  rw [← Bool.decide_and]
  refine decide_eq_decide.mpr ?_
  split <;> omega
def Opn (m t : Int) (st gs : List Int) : Bool := !((st.zip gs).any fun p => far m t p.1 p.2)
theorem opens_ok (m t : Int) (st gs : List Int) (hm : m ≠ 0) (hl : st.length = gs.length) :
    f_opens [.fr (.int m), .fr (eLI st), .fr (eLI gs), .fr (.int t)] = some (⟨.bl (Opn m t st gs), false⟩, [.fr (.int m), .fr (eLI st), .fr (eLI gs), .fr (.int t)]) := by
  have key := loopS_find (g := gT (gsCons (gN 4) (gsCons (gN 5) gsNil))) (body := opens_p1b)
    (fun τ => ∃ s4 s5 s6, s4.isLn = false ∧ s5.isLn = false ∧ s6.isLn = false ∧ τ = [.fr (.int m), .fr (eLI st), .fr (eLI gs), .fr (.int t), s4, s5, s6])
    (fun τ => ∃ s4 s5 s6, s4.isLn = false ∧ s5.isLn = false ∧ s6.isLn = false ∧ τ = [.fr (.int m), .fr (eLI st), .fr (eLI gs), .fr (.int t), s4, s5, s6])
    (fun p : Int × Int => T.tup [.int p.1, .int p.2]) (fun p => far m t p.1 p.2) ⟨.bl false, false⟩ (st.zip gs)
    (fun x _ τ ⟨s4, s5, s6, g4, g5, g6, e⟩ => by
      subst e
      refine ⟨fun hb => ⟨_, ?_, .fr (.int x.1), .fr (.int x.2), .fr (.int ((x.1 - x.2).fmod m)), rfl, rfl, rfl, rfl⟩, fun hb => ⟨_, ?_, .fr (.int x.1), .fr (.int x.2), .fr (.int ((x.1 - x.2).fmod m)), rfl, rfl, rfl, rfl⟩⟩
      · unfold far at hb
        have hb := of_decide_eq_false hb
        generalize hw : (x.1 - x.2).fmod m = w at *
        simp [opens_p1b, opens_p1b1, opens_p1b2, g4, g5, g6, hb, hm, hw]
      · unfold far at hb
        have hb := of_decide_eq_true hb
        generalize hw : (x.1 - x.2).fmod m = w at *
        simp [opens_p1b, opens_p1b1, opens_p1b2, g4, g5, g6, hb, hm, hw]) [.fr (.int m), .fr (eLI st), .fr (eLI gs), .fr (.int t), .no, .no, .no] ⟨_, _, _, rfl, rfl, rfl, rfl⟩
  have hz := zipP_zip T.int T.int st gs
  unfold f_opens
  rw [b_opens_eq]
  unfold Opn
  cases hb : (st.zip gs).any fun p => far m t p.1 p.2 with
  | false =>
    obtain ⟨τ', h, s4, s5, s6, _, _, _, rfl⟩ := key.1 hb
    rw [← hz] at h
    simp [opens_p, opens_p1, hl, h]
  | true =>
    obtain ⟨τ', h, s4, s5, s6, _, _, _, rfl⟩ := key.2 hb
    rw [← hz] at h
    simp [opens_p, opens_p1, hl, h]
theorem zip_any {f : Int → Int → Bool} : ∀ (st gs : List Int), st.length = gs.length → ((List.range gs.length).any fun k => f (gi st k) (gi gs k)) = (st.zip gs).any fun p => f p.1 p.2
  | [], [], _ => rfl
  | [], _ :: _, h => by simp at h
  | _ :: _, [], h => by simp at h
  | a :: r, b :: q, h => by
    rw [List.length_cons, List.range_succ_eq_map, List.any_cons, List.any_map, List.zip_cons_cons, List.any_cons, ← zip_any r q (by simpa using h)]
    rfl
theorem law_opens_ok (m t : Int) (st gs : List Int) (hm : m ≠ 0) (hl : st.length = gs.length) (hz : gs.length ≤ 900) :
    f_law_opens [.fr (.int m), .fr (eLI st), .fr (eLI gs), .fr (.int t)] = some (⟨.bl (Opn m t st gs), false⟩, [.fr (.int m), .fr (eLI st), .fr (eLI gs), .fr (.int t)]) := by
  have key := loopS_find (g := gN 4) (body := law_opens_p1b)
    (fun τ => ∃ s4 s5, s4.isLn = false ∧ s5.isLn = false ∧ τ = [.fr (.int m), .fr (eLI st), .fr (eLI gs), .fr (.int t), s4, s5])
    (fun τ => ∃ s4 s5, s4.isLn = false ∧ s5.isLn = false ∧ τ = [.fr (.int m), .fr (eLI st), .fr (eLI gs), .fr (.int t), s4, s5])
    (fun k : Nat => T.int k) (fun k => far m t (gi st k) (gi gs k)) ⟨.bl false, false⟩ (List.range gs.length)
    (fun k hk τ ⟨s4, s5, g4, g5, e⟩ => by
      subst e
      have hk := List.mem_range.mp hk
      have a1 := at_row (l := st) (i := k) (by omega)
      have a2 := at_row (l := gs) (i := k) (by omega)
      refine ⟨fun hb => ⟨_, ?_, .fr (.int k), .fr (.int ((gi st k - gi gs k).fmod m)), rfl, rfl, rfl⟩, fun hb => ⟨_, ?_, .fr (.int k), .fr (.int ((gi st k - gi gs k).fmod m)), rfl, rfl, rfl⟩⟩
      · rw [← far_alt] at hb
        generalize hu : gi st k = u at *
        generalize hv : gi gs k = v at *
        generalize hw : (u - v).fmod m = w at *
        generalize ((k : Nat) : Int) = I at *
        by_cases c : t < w
        · have c2 : ¬ t < m - w := by simpa [c] using hb
          simp [law_opens_p1b, law_opens_p1b1, law_opens_p1b2, g4, g5, hm, a1, a2, c, c2, hw]
        · simp [law_opens_p1b, law_opens_p1b1, law_opens_p1b2, g4, g5, hm, a1, a2, c, hw]
      · rw [← far_alt] at hb
        generalize hu : gi st k = u at *
        generalize hv : gi gs k = v at *
        generalize hw : (u - v).fmod m = w at *
        generalize ((k : Nat) : Int) = I at *
        have c : t < w := by simp at hb; exact hb.1
        have c2 : t < m - w := by simp at hb; exact hb.2
        simp [law_opens_p1b, law_opens_p1b1, law_opens_p1b2, g4, g5, hm, a1, a2, c, c2, hw]) [.fr (.int m), .fr (eLI st), .fr (eLI gs), .fr (.int t), .no, .no] ⟨_, _, rfl, rfl, rfl⟩
  have hz' : rngT 0 gs.length = _ := rngT0 gs.length
  rw [zip_any (f := far m t) st gs hl] at key
  have r1 := rgOk_n gs.length (by omega)
  have r2 : rgOk 0 = true := by decide +kernel
  unfold f_law_opens
  rw [b_law_opens_eq]
  unfold Opn
  cases hb : (st.zip gs).any fun p => far m t p.1 p.2 with
  | false =>
    obtain ⟨τ', h, s4, s5, _, _, rfl⟩ := key.1 hb
    rw [← hz'] at h
    simp [law_opens_p, law_opens_p1, r1, r2, h]
  | true =>
    obtain ⟨τ', h, s4, s5, _, _, rfl⟩ := key.2 hb
    rw [← hz'] at h
    simp [law_opens_p, law_opens_p1, r1, r2, h]
end TR

namespace TR
open PySem L2

theorem enu_row (ps : List Int) : enuT 0 (ps.map T.int) = (List.range ps.length).map fun j => T.tup [.int (j : Nat), .int (gi ps j)] := by
  refine List.ext_getElem? fun i => ?_
  rw [enuT_get]
  by_cases h : i < ps.length
  · simp [h, gi_lt h]
  · simp [h]
def staB (ps st : List Int) : Bool := (List.range ps.length).all fun j => decide (0 ≤ gi st j - gi st (j + 1)) && decide (gi st j - gi st (j + 1) ≤ gi ps j)
theorem staB_yes {ps st : List Int} (h : Sta ps st) : staB ps st = true := by
  unfold staB
  rw [List.all_eq_true]
  intro j hj
  have := h.2 j (List.mem_range.mp hj)
  rw [decide_eq_true this.1, decide_eq_true this.2]
  rfl
theorem is_state_ok (ps st : List Int) (hl : st.length = ps.length + 1) (hz : ps.length ≤ 900) :
    f_is_state [.fr (eLI ps), .fr (eLI st)] = some (⟨.bl (staB ps st), false⟩, [.fr (eLI ps), .fr (eLI st)]) := by
  have h1 : lcL (gN 2) yesB is_state_p2e1 [2] (st.map T.int) [.fr (eLI ps), .fr (eLI st), .no, .no, .no] = some (st.map (fun _ => T.bl true), [.fr (eLI ps), .fr (eLI st), .no, .no, .no]) :=
    lcL_mapE _ _ _ fun x _ => by simp [lcOne, is_state_p2e1, isiB]
  have h2 : lcL (gT (gsCons (gN 3) (gsCons (gN 4) gsNil))) yesB is_state_p3e1 [3, 4] (enuT 0 (ps.map T.int)) [.fr (eLI ps), .fr (eLI st), .no, .no, .no] =
      some ((List.range ps.length).map (fun j => T.bl (decide (0 ≤ gi st j - gi st (j + 1)) && decide (gi st j - gi st (j + 1) ≤ gi ps j))), [.fr (eLI ps), .fr (eLI st), .no, .no, .no]) := by
    rw [enu_row]
    refine lcL_mapE _ _ _ fun j hj => ?_
    have hj := List.mem_range.mp hj
    have a1 := at_row (l := st) (i := j) (by omega)
    have a2 : atI (st.map T.int) ((j : Int) + 1) = some (.int (gi st (j + 1))) := at_rowI (i := j + 1) (by omega) (by omega)
    generalize ((j : Nat) : Int) = I at *
    generalize gi st j = u at *
    generalize gi st (j + 1) = v at *
    by_cases c : v ≤ u
    · simp [lcOne, is_state_p3e1, a1, a2, c]
    · simp [lcOne, is_state_p3e1, a1, a2, c]
  have a1 : allG [.lst (st.map fun _ => T.bl true)] = some ⟨.bl (st.all fun _ => true), false⟩ := all_lst _ _
  have a1' : (st.all fun _ => true) = true := by simp
  rw [a1'] at a1
  have a2 : allG [.lst ((List.range ps.length).map (fun j => T.bl (decide (0 ≤ gi st j - gi st (j + 1)) && decide (gi st j - gi st (j + 1) ≤ gi ps j))))] = some ⟨.bl (staB ps st), false⟩ := all_lst _ _
  have sz : st.length ≤ sizeLine := by have := one_lt_line; omega
  have sz2 : ps.length ≤ sizeLine := by have := one_lt_line; omega
  have hn : (((st.length : Nat) : Int) = ((ps.length : Nat) : Int) + 1) := by omega
  have hZ : ((List.range ps.length).map (fun j => T.bl (decide (0 ≤ gi st j - gi st (j + 1)) && decide (gi st j - gi st (j + 1) ≤ gi ps j)))).length = ps.length := by simp
  generalize (List.range ps.length).map (fun j => T.bl (decide (0 ≤ gi st j - gi st (j + 1)) && decide (gi st j - gi st (j + 1) ≤ gi ps j))) = Z at *
  unfold f_is_state
  rw [b_is_state_eq]
  simp [is_state_p, is_state_p1, is_state_p2, is_state_p3, isiB, h1, h2, a1, a2, sz, sz2, hn, hZ]
/-- no list, or one of another length -/
theorem is_state_no1 (ps : List Int) (d : T) (h : isiB "list" d = false) : f_is_state [.fr (eLI ps), .fr d] = some (⟨.bl false, false⟩, [.fr (eLI ps), .fr d]) := by
  unfold f_is_state
  rw [b_is_state_eq]
  simp [is_state_p, is_state_p1, h]
theorem is_state_no2 (ps : List Int) (ds : List T) (h : ds.length ≠ ps.length + 1) : f_is_state [.fr (eLI ps), .fr (.lst ds)] = some (⟨.bl false, false⟩, [.fr (eLI ps), .fr (.lst ds)]) := by
  have hn : ¬ (((ds.length : Nat) : Int) = ((ps.length : Nat) : Int) + 1) := by omega
  unfold f_is_state
  rw [b_is_state_eq]
  simp [is_state_p, is_state_p1, isiB, hn]
/-- items that are no ints -/
theorem is_state_no3 (ps : List Int) (x : T) (n : Nat) (h : isiB "int" x = false ∨ isiB "bool" x = true) (hn : n = ps.length + 1) (hz : ps.length ≤ 900) : f_is_state [.fr (eLI ps), .fr (.lst (List.replicate n x))] = some (⟨.bl false, false⟩, [.fr (eLI ps), .fr (.lst (List.replicate n x))]) := by
  have h1 : lcL (gN 2) yesB is_state_p2e1 [2] (List.replicate n x) [.fr (eLI ps), .fr (.lst (List.replicate n x)), .no, .no, .no] = some ((List.range n).map (fun _ => T.bl false), [.fr (eLI ps), .fr (.lst (List.replicate n x)), .no, .no, .no]) := by
    generalize hR : List.replicate n x = R
    have hR2 : R = (List.range n).map fun _ => x := by rw [← hR]; simp [List.map_const']
    have key := lcL_mapE (g := gN 2) (cnd := yesB) (elt := is_state_p2e1) (own := [2]) (τ := [.fr (eLI ps), .fr (.lst R), .no, .no, .no]) (fun _ : Nat => x) (fun _ => T.bl false) (List.range n) fun j _ => by
      rcases h with h | h
      · simp [lcOne, is_state_p2e1, h]
      · cases h2 : isiB "int" x with
        | false => simp [lcOne, is_state_p2e1, h2]
        | true => simp [lcOne, is_state_p2e1, h, h2]
    rw [← hR2] at key
    exact key
  have a1 := all_lst (fun _ : Nat => false) (List.range n)
  have a1' : (List.range n).all (fun _ => false) = false := by
    subst hn
    rw [List.range_succ]
    simp
  rw [a1'] at a1
  have hl : (List.replicate n x).length = ps.length + 1 := by simp [hn]
  have sz : n ≤ sizeLine := by have := one_lt_line; omega
  have hn2 : (((n : Nat) : Int) = ((ps.length : Nat) : Int) + 1) := by omega
  unfold f_is_state
  rw [b_is_state_eq]
  have hZ : ((List.range n).map (fun _ => T.bl false)).length = n := by simp
  generalize (List.range n).map (fun _ => T.bl false) = Z at *
  simp [is_state_p, is_state_p1, is_state_p2, isiB, h1, a1, sz, hn2, hZ]
end TR

namespace TR
open PySem L2

theorem mulOk_small {a b : Nat} (ha : a ≤ 1000000000) (hb : b ≤ 1000000000) : mulOk (a : Int) (b : Int) = true :=
  mulOk_big (Nat.lt_of_le_of_lt (by omega : _ ≤ 1000000000) (by decide)) (Nat.lt_of_le_of_lt (by omega : _ ≤ 1000000000) (by decide))
theorem pow_small {W k : Nat} (hW : W ≤ 12) (hk : k ≤ 4) : W ^ k ≤ 1000000000 :=
  Nat.le_trans (Nat.pow_le_pow_left hW k) (Nat.le_trans (Nat.pow_le_pow_right (by decide) hk) (by decide))
def Wd (m t : Nat) : Nat := min (2 * t + 1) m
theorem opening_count_ok (m t : Nat) (gs : List Int) (hm : m ≤ 12) (ht : t ≤ 3) (hz : gs.length ≤ 4) :
    f_opening_count [.fr (.int (m : Nat)), .fr (eLI gs), .fr (.int (t : Nat))] = some (⟨.int ((Wd m t ^ gs.length : Nat) : Int), false⟩, [.fr (.int (m : Nat)), .fr (eLI gs), .fr (.int (t : Nat))]) := by
  obtain ⟨τ', h, s4, g4, rfl⟩ := loopS_inv (g := gN 4) (body := opening_count_p2b) (fun k τ => ∃ s4, s4.isLn = false ∧ τ = [.fr (.int (m : Nat)), .fr (eLI gs), .fr (.int (t : Nat)), .fr (.int ((Wd m t ^ k : Nat) : Int)), s4]) (gs.map T.int) 0
    (fun i d τ hd hI => by
      rw [Nat.zero_add] at hI ⊢
      obtain ⟨s4, g4, rfl⟩ := hI
      have hi : i < gs.length := by
        have := (List.getElem?_eq_some_iff.mp hd).1
        simpa using this
      have hW : Wd m t ≤ 12 := by unfold Wd; omega
      have e1 := mulOk_small (a := Wd m t ^ i) (b := Wd m t) (pow_small hW (by omega)) (by omega)
      have e2 : mulOk 2 (t : Int) = true := mulOk_small (a := 2) (by omega) (by omega)
      have e3 : (if (m : Int) < 2 * (t : Int) + 1 then (m : Int) else 2 * (t : Int) + 1) = ((Wd m t : Nat) : Int) := by
        unfold Wd
        split <;> omega
      have e4 : ((Wd m t ^ i : Nat) : Int) * ((Wd m t : Nat) : Int) = ((Wd m t ^ (i + 1) : Nat) : Int) := by
        rw [Nat.pow_succ, Int.natCast_mul]
      generalize ((Wd m t ^ (i + 1) : Nat) : Int) = Y at *
      generalize ((Wd m t ^ i : Nat) : Int) = X at *
      generalize ((Wd m t : Nat) : Int) = W at *
      refine ⟨_, ?_, .fr d, rfl, rfl⟩
      generalize ((m : Nat) : Int) = M at *
      generalize ((t : Nat) : Int) = V at *
      simp [opening_count_p2b, g4, e1, e2, e3, e4]) [.fr (.int (m : Nat)), .fr (eLI gs), .fr (.int (t : Nat)), .fr (.int 1), .no] ⟨.no, rfl, by simp⟩
  rw [List.length_map] at h
  simp only [Nat.zero_add] at h
  generalize ((Wd m t ^ gs.length : Nat) : Int) = Y at *
  unfold f_opening_count
  rw [b_opening_count_eq]
  generalize ((m : Nat) : Int) = M at *
  generalize ((t : Nat) : Int) = V at *
  simp [opening_count_p, opening_count_p2, h]
/-- how many numbers are enough -/
def cd (m t : Nat) : Nat := (m + 2 * t) / (2 * t + 1)
def enN (m t : Nat) : List Int := (List.range (cd m t)).map fun k => ((k * (2 * t + 1) : Nat) : Int)
theorem rgc_ok : ∀ m : Nat, m < 13 → ∀ t : Nat, t < 4 → 2 ≤ m → rgcN 0 (m : Int) (2 * (t : Int) + 1) = some (cd m t) := by decide +kernel
theorem rngS_enN (t : Nat) : ∀ n k : Nat, rngS ((k * (2 * t + 1) : Nat) : Int) (2 * (t : Int) + 1) n = (List.range n).map fun i => T.int (((k + i) * (2 * t + 1) : Nat) : Int)
  | 0, _ => rfl
  | n + 1, k => by
    have e : ((k * (2 * t + 1) : Nat) : Int) + (2 * (t : Int) + 1) = (((k + 1) * (2 * t + 1) : Nat) : Int) := by
      rw [Nat.add_mul]
      omega
    rw [rngS, e, rngS_enN t n (k + 1), List.range_succ_eq_map, List.map_cons, List.map_map]
    congr 1
    refine List.map_congr_left fun i _ => ?_
    simp only [Function.comp, Nat.succ_eq_add_one]
    rw [show k + 1 + i = k + (i + 1) by omega]
theorem enough_ok (m t : Nat) (h2 : 2 ≤ m) (hm : m ≤ 12) (ht : t ≤ 3) :
    f_enough_numbers [.fr (.int (m : Nat)), .fr (.int (t : Nat))] = some (⟨eLI (enN m t), true⟩, [.fr (.int (m : Nat)), .fr (.int (t : Nat))]) := by
  have e2 : mulOk 2 (t : Int) = true := mulOk_small (a := 2) (by omega) (by omega)
  have e3 := rgc_ok m (by omega) t (by omega) h2
  have e4 : cd m t ≤ 16777216 := by
    unfold cd
    exact Nat.le_trans (Nat.div_le_self _ _) (by omega)
  have e5 : rngS 0 (2 * (t : Int) + 1) (cd m t) = (enN m t).map T.int := by
    have := rngS_enN t (cd m t) 0
    simp only [Nat.zero_mul, Nat.zero_add] at this
    rw [show (0 : Int) = ((0 : Nat) : Int) from rfl, this]
    unfold enN
    rw [List.map_map]
    rfl
  have e6 : Nat.ble (cd m t) 16777216 = true := Nat.ble_eq_true_of_le e4
  generalize enN m t = Y at *
  generalize cd m t = n at *
  unfold f_enough_numbers
  rw [b_enough_numbers_eq]
  generalize ((m : Nat) : Int) = M at *
  generalize ((t : Nat) : Int) = V at *
  simp [enough_numbers_p, e2, e3, e4, e5, e6]
theorem enN_len {m t : Nat} : (enN m t).length = cd m t := by simp [enN]
theorem tries_ok (m w t : Nat) (h2 : 2 ≤ m) (hm : m ≤ 12) (ht : t ≤ 3) (hz : w ≤ 4) :
    f_tries [.fr (.int (m : Nat)), .fr (.int (w : Nat)), .fr (.int (t : Nat))] = some (⟨.int ((cd m t ^ w : Nat) : Int), false⟩, [.fr (.int (m : Nat)), .fr (.int (w : Nat)), .fr (.int (t : Nat))]) := by
  have hen := enough_ok m t h2 hm ht
  have hlen := enN_len (m := m) (t := t)
  have hW : cd m t ≤ 12 := by
    unfold cd
    refine Nat.le_of_lt_succ (Nat.div_lt_of_lt_mul ?_)
    have : (2 * t + 1) * 13 = 26 * t + 13 := by omega
    omega
  obtain ⟨τ', h, s4, g4, rfl⟩ := loopS_inv (g := gN 4) (body := tries_p2b) (fun k τ => ∃ s4, s4.isLn = false ∧ τ = [.fr (.int (m : Nat)), .fr (.int (w : Nat)), .fr (.int (t : Nat)), .fr (.int ((cd m t ^ k : Nat) : Int)), s4]) (rngT 0 w) 0
    (fun i d τ hd hI => by
      rw [Nat.zero_add] at hI ⊢
      obtain ⟨s4, g4, rfl⟩ := hI
      have hi : i < w := by
        have := (List.getElem?_eq_some_iff.mp hd).1
        rw [rngT_length] at this
        exact this
      have e1 := mulOk_small (a := cd m t ^ i) (b := cd m t) (pow_small hW (by omega)) (by omega)
      have e4 : ((cd m t ^ i : Nat) : Int) * ((cd m t : Nat) : Int) = ((cd m t ^ (i + 1) : Nat) : Int) := by
        rw [Nat.pow_succ, Int.natCast_mul]
      generalize ((cd m t ^ (i + 1) : Nat) : Int) = Y at *
      generalize ((cd m t ^ i : Nat) : Int) = X at *
      rw [← hlen] at e1 e4
      generalize enN m t = E at *
      refine ⟨_, ?_, .fr d, rfl, rfl⟩
      generalize ((m : Nat) : Int) = M at *
      generalize ((w : Nat) : Int) = Ww at *
      generalize ((t : Nat) : Int) = V at *
      simp [tries_p2b, g4, e1, hen, e4]) [.fr (.int (m : Nat)), .fr (.int (w : Nat)), .fr (.int (t : Nat)), .fr (.int 1), .no] ⟨.no, rfl, by simp⟩
  rw [rngT_length] at h
  simp only [Nat.zero_add] at h
  generalize ((cd m t ^ w : Nat) : Int) = Y at *
  have r1 := rgOk_n w (by omega)
  have r2 : rgOk 0 = true := by decide +kernel
  have e1 : (w : Int).toNat = w := Int.toNat_natCast w
  unfold f_tries
  rw [b_tries_eq]
  clear hlen hen
  generalize ((m : Nat) : Int) = M at *
  generalize ((t : Nat) : Int) = V at *
  generalize ((w : Nat) : Int) = Ww at *
  simp [tries_p, tries_p2, h, r1, r2, e1]
end TR

namespace TR
open PySem L2

theorem cut_take {l : List T} {k : Nat} (h : k ≤ l.length) : cutT l none (some (k : Int)) = l.take k := by
  show List.take (HT.sIx l.length l.length (some (k : Int)) - HT.sIx l.length 0 none) (l.drop (HT.sIx l.length 0 none)) = _
  rw [HT.sIx_nat, HT.sIx_none]
  simp
  try (congr 1; omega)
theorem cut_tail (h : List T) : cutT h (some 1) none = h.tail := by
  unfold cutT HT.sIx
  cases h with
  | nil => rfl
  | cons x r => simp
theorem sumA_take (ps : List Int) (k : Nat) : sumA [.lst ((ps.map T.int).take k)] = some ⟨.int (Sm ps k), false⟩ := by
  have := sumA_lst (fun i : Int => i) (ps.take k)
  rw [List.map_take] at this
  simpa [Sm] using this
theorem Sm_all (ps : List Int) : Sm ps ps.length = ps.sum := by unfold Sm; rw [List.take_length]
theorem sumA_all (ps : List Int) : sumA [.lst (ps.map T.int)] = some ⟨.int (Sm ps ps.length), false⟩ := by
  have := sumA_take ps ps.length
  rwa [List.take_of_length_le (by simp)] at this
theorem tby_snoc (ps st ns : List Int) (x : Int) : tby ps st (ns ++ [x]) = tnd ps (tby ps st ns) x := by simp [tby]
theorem tby_filter {ps : List Int} (hp : Pl ps) : ∀ (ns st : List Int), Sta ps st → tby ps st (ns.filter fun x => decide (x ≠ 0)) = tby ps st ns
  | [], _, _ => rfl
  | x :: r, st, hs => by
    by_cases c : x = 0
    · subst c
      rw [List.filter_cons_of_neg (by simp)]
      show _ = tby ps (tnd ps st 0) r
      rw [tnd_zero hs]
      exact tby_filter hp r st hs
    · rw [List.filter_cons_of_pos (by simpa using c)]
      exact tby_filter hp r (tnd ps st x) (sta_tnd hp)
section
variable (ps st0 g : List Int)
def upk (k : Nat) : Bool := decide (k % 2 = 0)
theorem upk_succ (k : Nat) : upk (k + 1) = !upk k := by
  unfold upk
  by_cases c : k % 2 = 0
  · rw [decide_eq_true c, decide_eq_false (by omega)]; rfl
  · rw [decide_eq_false c, decide_eq_true (by omega)]; rfl
abbrev wS (ns here : List Int) (b : Bool) (s6 s7 s8 : Sl) : Sls := [.fr (eLI ps), .fr (eLI st0), .fr (eLI g), .ow (eLI ns), .ow (eLI here), .fr (.bl b), s6, s7, s8, .no]
def WInv (k : Nat) (τ : Sls) : Prop := ∃ (ns here : List Int) (s6 s7 s8 : Sl), s6.isLn = false ∧ s7.isLn = false ∧ s8.isLn = false ∧ tby ps st0 ns = here ∧ Sta ps here ∧ ns.length ≤ k + (if k = 0 then 0 else 1) ∧
  (k = 0 → here = st0) ∧ (0 < k → ∀ j, j ≤ ps.length → gi here j = Wy ps g (ps.length + 1 - k) (!upk k) j) ∧ τ = wS ps st0 g ns here (upk k) s6 s7 s8
theorem eLI_app (ns : List Int) (x : Int) : ns.map T.int ++ [T.int x] = (ns ++ [x]).map T.int := by simp
theorem w_one (hp : Pl ps) (hg : Sta ps g) (hz : ps.length ≤ 100) (ns here : List Int) (hh : Sta ps here) (hn : ns.length ≤ 900) (b : Bool) (at_ : Nat) (ha : at_ ≤ ps.length) (f : Int) (hf : f = fst' ps g at_ b) (s8 : Sl) :
    ∃ s8' : Sl, (sqS way_to_p4b3 (sqS way_to_p4b4 (asgS 5 (notE (prdOk 5))))) (wS ps st0 g ns here b (.fr (.int (at_ : Nat))) (.fr (.int f)) s8) = some (.nx (wS ps st0 g (ns ++ [f - gi here 0]) (tnd ps here (f - gi here 0)) (!b) (.fr (.int (at_ : Nat))) (.fr (.int f)) s8)) := by
  refine ⟨s8, ?_⟩
  have a1 : atI (here.map T.int) 0 = some (.int (gi here 0)) := at_rowI (i := 0) (by omega) (by have := hh.1; omega)
  have ht := turned_ok ps here (f - gi here 0) hh.1 (by omega)
  have sz : ns.length < sizeLine := by have := one_lt_line; omega
  have e3 : way_to_p4b3 (wS ps st0 g ns here b (.fr (.int (at_ : Nat))) (.fr (.int f)) s8) = some (.nx (wS ps st0 g (ns ++ [f - gi here 0]) here b (.fr (.int (at_ : Nat))) (.fr (.int f)) s8)) := by
    have hap := eLI_app ns (f - gi here 0)
    generalize ns ++ [f - gi here 0] = NS at *
    simp [way_to_p4b3, a1, sz, hap]
  have e4 : way_to_p4b4 (wS ps st0 g (ns ++ [f - gi here 0]) here b (.fr (.int (at_ : Nat))) (.fr (.int f)) s8) = some (.nx (wS ps st0 g (ns ++ [f - gi here 0]) (tnd ps here (f - gi here 0)) b (.fr (.int (at_ : Nat))) (.fr (.int f)) s8)) := by
    generalize ns ++ [f - gi here 0] = NS at *
    generalize tnd ps here (f - gi here 0) = Y at *
    simp [way_to_p4b4, a1, ht]
  refine sq_nx e3 (sq_nx e4 ?_)
  generalize ns ++ [f - gi here 0] = NS at *
  generalize tnd ps here (f - gi here 0) = Y at *
  cases b <;> simp
theorem way_first (ps g : List Int) (b : Bool) (at_ : Nat) (ha : at_ ≤ ps.length) (hg : g.length = ps.length + 1) (s0 s3 s4 s7 s8 : Sl) (g7 : s7.isLn = false) :
    way_to_p4b1 [.fr (eLI ps), s0, .fr (eLI g), s3, s4, .fr (.bl b), .fr (.int (at_ : Nat)), s7, s8, .no] = some (.nx [.fr (eLI ps), s0, .fr (eLI g), s3, s4, .fr (.bl b), .fr (.int (at_ : Nat)), .fr (.int (fst' ps g at_ b)), s8, .no]) := by
  have a1 := at_row (l := g) (i := at_) (by omega)
  have a2 : slG (eLI ps) none (some (at_ : Int)) = some ⟨.lst ((ps.map T.int).take at_), true⟩ := by
    show some (R.mk (.lst (cutT (ps.map T.int) none (some (at_ : Int)))) true) = _
    rw [cut_take (by simpa using ha)]
  have a3 := sumA_take ps at_
  generalize (ps.map T.int).take at_ = X at *
  unfold fst'
  generalize Sm ps at_ = S at *
  generalize ((at_ : Nat) : Int) = I at *
  cases b <;> simp [way_to_p4b1, a1, a2, a3, g7]
theorem way_down (hp : Pl ps) (hg : Sta ps g) (hh : Sta ps st0) (hz : ps.length ≤ 100) (s6 s8 : Sl) (g8 : s8.isLn = false) (f lo : Int) (hlo : lo = (if f - Sm ps ps.length < gi st0 0 then f - Sm ps ps.length else gi st0 0) - 1) :
    way_to_p4b2 (wS ps st0 g [] st0 true (.fr (.int (ps.length : Nat))) (.fr (.int f)) s8) = some (.nx (wS ps st0 g [lo - gi st0 0] (tnd ps st0 (lo - gi st0 0)) true (.fr (.int (ps.length : Nat))) (.fr (.int f)) (.fr (.int lo)))) := by
  have a1 : atI (st0.map T.int) 0 = some (.int (gi st0 0)) := at_rowI (i := 0) (by omega) (by have := hh.1; omega)
  have ht := turned_ok ps st0 (lo - gi st0 0) hh.1 (by omega)
  have a3 := sumA_all ps
  have sz : (0 : Nat) < sizeLine := by decide
  have e1 : way_to_p4b2t1 (wS ps st0 g [] st0 true (.fr (.int (ps.length : Nat))) (.fr (.int f)) s8) = some (.nx (wS ps st0 g [] st0 true (.fr (.int (ps.length : Nat))) (.fr (.int f)) (.fr (.int lo)))) := by
    generalize Sm ps ps.length = S at *
    simp [way_to_p4b2t1, a1, a3, g8, hlo]
  have e2 : way_to_p4b2t2 (wS ps st0 g [] st0 true (.fr (.int (ps.length : Nat))) (.fr (.int f)) (.fr (.int lo))) = some (.nx (wS ps st0 g [lo - gi st0 0] st0 true (.fr (.int (ps.length : Nat))) (.fr (.int f)) (.fr (.int lo)))) := by
    simp [way_to_p4b2t2, a1, sz]
  have e3 : way_to_p4b2t3 (wS ps st0 g [lo - gi st0 0] st0 true (.fr (.int (ps.length : Nat))) (.fr (.int f)) (.fr (.int lo))) = some (.nx (wS ps st0 g [lo - gi st0 0] (tnd ps st0 (lo - gi st0 0)) true (.fr (.int (ps.length : Nat))) (.fr (.int f)) (.fr (.int lo)))) := by
    generalize tnd ps st0 (lo - gi st0 0) = Y at *
    simp [way_to_p4b2t3, a1, ht]
  have e0 : way_to_p4b2t (wS ps st0 g [] st0 true (.fr (.int (ps.length : Nat))) (.fr (.int f)) s8) = some (.nx (wS ps st0 g [lo - gi st0 0] (tnd ps st0 (lo - gi st0 0)) true (.fr (.int (ps.length : Nat))) (.fr (.int f)) (.fr (.int lo)))) := by
    unfold way_to_p4b2t
    exact sq_nx e1 (sq_nx e2 e3)
  have hgl : ((g.length : Nat) : Int) - 1 = ((ps.length : Nat) : Int) := by have := hg.1; omega
  generalize tnd ps st0 (lo - gi st0 0) = Y at *
  simp only [wS] at e0 ⊢
  simp [way_to_p4b2, hgl, e0]
theorem way_pass (hg : g.length = ps.length + 1) (at_ : Nat) (ha : at_ < ps.length) (s0 s1 s3 s4 s5 s7 s8 : Sl) :
    way_to_p4b2 [s0, s1, .fr (eLI g), s3, s4, s5, .fr (.int (at_ : Nat)), s7, s8, .no] = some (.nx [s0, s1, .fr (eLI g), s3, s4, s5, .fr (.int (at_ : Nat)), s7, s8, .no]) := by
  have hgl : ¬ ((at_ : Nat) : Int) = ((g.length : Nat) : Int) - 1 := by omega
  generalize ((at_ : Nat) : Int) = I at *
  simp [way_to_p4b2, hgl]
end
end TR

namespace TR
open PySem L2
section
variable (ps st0 g : List Int)
theorem way_loop (hp : Pl ps) (hg : Sta ps g) (hh : Sta ps st0) (hz : ps.length ≤ 100) :
    ∃ (ns : List Int) (s5 s6 s7 s8 : Sl), ns.length ≤ ps.length + 2 ∧ tby ps st0 ns = g ∧ loopS (gN 6) way_to_p4b (rngS (ps.length : Int) (-1) (ps.length + 1)) [.fr (eLI ps), .fr (eLI st0), .fr (eLI g), .ow (eLI []), .ow (eLI st0), .fr (.bl true), .no, .no, .no, .no] =
      some (.nx [.fr (eLI ps), .fr (eLI st0), .fr (eLI g), .ow (eLI ns), .ow (eLI g), s5, s6, s7, s8, .no]) := by
  obtain ⟨τ', h, ns, here, s6, s7, s8, g6, g7, g8, ht, hs, hn, h0, hw, rfl⟩ := loopS_inv (g := gN 6) (body := way_to_p4b) (WInv ps st0 g) (rngS (ps.length : Int) (-1) (ps.length + 1)) 0
    (fun i d τ hd hI => by
      rw [Nat.zero_add] at hI ⊢
      obtain ⟨ns, here, s6, s7, s8, g6, g7, g8, ht, hs, hn, h0, hw, rfl⟩ := hI
      have hi : i < ps.length + 1 := by
        have := (List.getElem?_eq_some_iff.mp hd).1
        rw [rngS_length] at this
        exact this
      have ed : d = .int ((ps.length - i : Nat) : Int) := by
        rw [rngS_get _ _ _ _ hi] at hd
        cases hd
        congr 1
        omega
      subst ed
      have e0 : gN 6 (.int ((ps.length - i : Nat) : Int)) (wS ps st0 g ns here (upk i) s6 s7 s8) = some (wS ps st0 g ns here (upk i) (.fr (.int ((ps.length - i : Nat) : Int))) s7 s8) := by
        simp [g6]
      rw [e0, Option.bind_some]
      have e1 := way_first ps g (upk i) (ps.length - i) (by omega) hg.1 (.fr (eLI st0)) (.ow (eLI ns)) (.ow (eLI here)) s7 s8 g7
      unfold way_to_p4b
      by_cases c : i = 0
      · subst c
        have hst := h0 rfl
        subst hst
        have hns : ns = [] := List.eq_nil_of_length_eq_zero (by simpa using hn)
        subst hns
        have hu : upk 0 = true := rfl
        rw [hu] at e1 ⊢
        rw [Nat.sub_zero] at e1 ⊢
        have e2 := way_down ps here g hp hg hs hz s6 s8 g8 (fst' ps g ps.length true) _ rfl
        generalize hlo : (if fst' ps g ps.length true - Sm ps ps.length < gi here 0 then fst' ps g ps.length true - Sm ps ps.length else gi here 0) - 1 = lo at *
        have hs1 := sta_tnd (ps := ps) (st := here) (n := lo - gi here 0) hp
        have hx : gi (tnd ps here (lo - gi here 0)) 0 = lo := by
          rw [gi_tnd (Nat.zero_le _), ts]
          omega
        have hwf := wy_first (ps := ps) (g := g) hp hs1 hg (lo := lo) (by omega) (by rw [← hlo]; split <;> omega)
        generalize hH : tnd ps here (lo - gi here 0) = here1 at *
        obtain ⟨s8', e3⟩ := w_one ps here g hp hg hz [lo - gi here 0] here1 hs1 (by simp) true ps.length (Nat.le_refl _) (fst' ps g ps.length true) rfl (.fr (.int lo))
        refine ⟨_, sq_nx e1 (sq_nx e2 e3), [lo - gi here 0] ++ [fst' ps g ps.length true - gi here1 0], tnd ps here1 (fst' ps g ps.length true - gi here1 0), _, _, .fr (.int lo), rfl, rfl, rfl, ?_, sta_tnd hp, ?_, ?_, ?_, rfl⟩
        · rw [tby_snoc]
          show tnd ps (tnd ps here (lo - gi here 0)) _ = _
          rw [hH]
        · simp
        · intro q; omega
        · intro _ j hj
          rw [gi_tnd hj]
          exact hwf j hj
      · have e2 := way_pass ps g hg.1 (ps.length - i) (by omega) (.fr (eLI ps)) (.fr (eLI st0)) (.ow (eLI ns)) (.ow (eLI here)) (.fr (.bl (upk i))) (.fr (.int (fst' ps g (ps.length - i) (upk i)))) s8
        have hn' : ns.length ≤ i + 1 := by rw [if_neg c] at hn; exact hn
        obtain ⟨s8', e3⟩ := w_one ps st0 g hp hg hz ns here hs (by omega) (upk i) (ps.length - i) (by omega) (fst' ps g (ps.length - i) (upk i)) rfl s8
        have hw' := hw (by omega)
        rw [show ps.length + 1 - i = (ps.length - i) + 1 by omega] at hw'
        have hst := wy_step hp hg (t := ps.length - i) (by omega) hw'
        rw [Bool.not_not] at hst
        refine ⟨_, sq_nx e1 (sq_nx e2 e3), ns ++ [fst' ps g (ps.length - i) (upk i) - gi here 0], tnd ps here (fst' ps g (ps.length - i) (upk i) - gi here 0), .fr (.int ((ps.length - i : Nat) : Int)), .fr (.int (fst' ps g (ps.length - i) (upk i))), s8, rfl, rfl, g8, ?_, sta_tnd hp, ?_, ?_, ?_, ?_⟩
        · rw [tby_snoc, ht]
        · rw [if_neg (by omega), List.length_append]
          simp
          omega
        · intro q; omega
        · intro _ j hj
          rw [gi_tnd hj, upk_succ, Bool.not_not, show ps.length + 1 - (i + 1) = ps.length - i by omega]
          exact hst j hj
        · rw [upk_succ]) _ ⟨[], st0, .no, .no, .no, rfl, rfl, rfl, rfl, hh, by simp, fun _ => rfl, fun q => absurd q (by omega), rfl⟩
  rw [rngS_length, Nat.zero_add] at h hw hn
  have hfin : here = g := ext_gi (by rw [hs.1, hg.1]) fun i hi => by
    rw [hs.1] at hi
    rw [hw (by omega) i (by omega)]
    unfold Wy
    rw [if_pos (by omega)]
  subst hfin
  rw [if_neg (by omega)] at hn
  exact ⟨ns, _, _, _, _, by omega, ht, h⟩
theorem forS_of {it : M (List T)} {g : T → Sls → Option Sls} {body : Sls → Option Out} {τ τ' : Sls} {ds : List T} (h : it τ = some (ds, τ')) : forS it g body τ = loopS g body ds τ' := by
  simp [h]
theorem way_rng {L : Int} (hgl : ((g.length : Nat) : Int) - 1 = L) {n : Nat} (r1 : rgcN L (-1) (-1) = some n) (r : Sls) :
    rng3 (consO (ov (fz (opE subG (ov (fz (calE lenG (consO (prdOk 2) nilO)))) (ov (cst (.int 1)))))) (consO (ov (fz (unE negG (ov (cst (.int 1)))))) (consO (ov (fz (unE negG (ov (cst (.int 1)))))) nilO))) (.fr (eLI ps) :: .fr (eLI st0) :: .fr (eLI g) :: r) =
      some (rngS L (-1) n, .fr (eLI ps) :: .fr (eLI st0) :: .fr (eLI g) :: r) := by
  simp [hgl, r1]
theorem way_ok (hp : Pl ps) (hg : Sta ps g) (hh : Sta ps st0) (hz : ps.length ≤ 100) : ∃ ns : List Int, ¬ (0 : Int) ∈ ns ∧ ns.length ≤ ps.length + 2 ∧ tby ps st0 ns = g ∧
    f_way_to [.fr (eLI ps), .fr (eLI st0), .fr (eLI g)] = some (⟨eLI ns, true⟩, [.fr (eLI ps), .fr (eLI st0), .fr (eLI g)]) := by
  obtain ⟨ns, s5, s6, s7, s8, hn, ht, h⟩ := way_loop ps st0 g hp hg hh hz
  refine ⟨ns.filter fun x => decide (x ≠ 0), ?_, ?_, ?_, ?_⟩
  · intro q
    have := (List.mem_filter.mp q).2
    simp at this
  · exact Nat.le_trans (List.length_filter_le _ _) hn
  · rw [tby_filter hp ns st0 hh, ht]
  · have h5 : lcL (gN 9) way_to_p5c1 (vrd 9) [9] (ns.map T.int) [.fr (eLI ps), .fr (eLI st0), .fr (eLI g), .fr (eLI ns), .ow (eLI g), s5, s6, s7, s8, .no] = some ((ns.filter fun x => decide (x ≠ 0)).map T.int, [.fr (eLI ps), .fr (eLI st0), .fr (eLI g), .fr (eLI ns), .ow (eLI g), s5, s6, s7, s8, .no]) :=
      lcL_filE _ _ _ _ fun x _ => by
        by_cases c : x = 0
        · simp [lcOne, way_to_p5c1, c]
        · simp [lcOne, way_to_p5c1, c]
    have r1 : rgcN (ps.length : Int) (-1) (-1) = some (ps.length + 1) := by
      rw [rgcN_down _ _ (rgOk_n _ (by omega)) (by decide +kernel), show ((ps.length : Int) - -1).toNat = ps.length + 1 by omega]
    have hgl : ((g.length : Nat) : Int) - 1 = ((ps.length : Nat) : Int) := by have := hg.1; omega
    have sz : (ns.filter fun x => decide (x ≠ 0)).length ≤ sizeLine := by
      have := List.length_filter_le (fun x => decide (x ≠ 0)) ns
      have := one_lt_line
      omega
    have sz0 : (0 : Nat) ≤ sizeLine := by decide
    generalize (ns.filter fun x => decide (x ≠ 0)) = Z at *
    change loopS (gN 6) way_to_p4b (rngS (ps.length : Int) (-1) (ps.length + 1)) [.fr (eLI ps), .fr (eLI st0), .fr (eLI g), .ow (.lst []), .ow (.lst (st0.map T.int)), .fr (.bl true), .no, .no, .no, .no] = _ at h
    have q1 : asgS 3 (lstE nilV) [.fr (eLI ps), .fr (eLI st0), .fr (eLI g), .no, .no, .no, .no, .no, .no, .no] = some (.nx [.fr (eLI ps), .fr (eLI st0), .fr (eLI g), .ow (.lst []), .no, .no, .no, .no, .no, .no]) := by
      simp
    have q2 : way_to_p2 [.fr (eLI ps), .fr (eLI st0), .fr (eLI g), .ow (.lst []), .no, .no, .no, .no, .no, .no] = some (.nx [.fr (eLI ps), .fr (eLI st0), .fr (eLI g), .ow (.lst []), .ow (eLI st0), .no, .no, .no, .no, .no]) := by
      simp [way_to_p2]
    have q3 : way_to_p3 [.fr (eLI ps), .fr (eLI st0), .fr (eLI g), .ow (.lst []), .ow (eLI st0), .no, .no, .no, .no, .no] = some (.nx [.fr (eLI ps), .fr (eLI st0), .fr (eLI g), .ow (.lst []), .ow (eLI st0), .fr (.bl true), .no, .no, .no, .no]) := by
      simp [way_to_p3]
    have q4 : way_to_p4 [.fr (eLI ps), .fr (eLI st0), .fr (eLI g), .ow (.lst []), .ow (eLI st0), .fr (.bl true), .no, .no, .no, .no] = some (.nx [.fr (eLI ps), .fr (eLI st0), .fr (eLI g), .ow (eLI ns), .ow (eLI g), s5, s6, s7, s8, .no]) := by
      have hr := way_rng ps st0 g hgl r1 [.ow (.lst []), .ow (eLI st0), .fr (.bl true), .no, .no, .no, .no]
      unfold way_to_p4
      rw [forS_of hr]
      exact h
    have q5 : way_to_p5 [.fr (eLI ps), .fr (eLI st0), .fr (eLI g), .ow (eLI ns), .ow (eLI g), s5, s6, s7, s8, .no] = some (.rt ⟨eLI Z, true⟩ [.fr (eLI ps), .fr (eLI st0), .fr (eLI g), .fr (eLI ns), .ow (eLI g), s5, s6, s7, s8, .no]) := by
      clear h r1 hgl q1 q2 q3 q4
      simp [way_to_p5, h5, sz]
    have q : way_to_p [.fr (eLI ps), .fr (eLI st0), .fr (eLI g), .no, .no, .no, .no, .no, .no, .no] = some (.rt ⟨eLI Z, true⟩ [.fr (eLI ps), .fr (eLI st0), .fr (eLI g), .fr (eLI ns), .ow (eLI g), s5, s6, s7, s8, .no]) := by
      unfold way_to_p
      exact sq_nx q1 (sq_nx q2 (sq_nx q3 (sq_nx q4 q5)))
    clear q1 q2 q3 q4 q5
    unfold f_way_to
    rw [b_way_to_eq]
    simp [q]
end
end TR

namespace TR
open PySem L2
theorem fdivOk_small (v : Int) (h0 : 0 < v) (h1 : v < 1000000000) : fdivOk v = true := by
  unfold fdivOk
  have e : (1000000000 : Nat) ≤ 2 ^ 4096 := Nat.le_trans (by decide : (1000000000 : Nat) ≤ 2 ^ 30) (Nat.pow_le_pow_right (by decide) (by decide))
  rw [decide_eq_true (by omega : v ≠ 0), decide_eq_true h0, decide_eq_true (show v.natAbs < 2 ^ 4096 from Nat.lt_of_lt_of_le (by omega) e)]
  simp
/-- plays up to seven -/
def P7 (ps : List Int) : Prop := ps.length ≤ 3 ∧ ∀ x ∈ ps, 0 ≤ x ∧ x ≤ 7
theorem P7.pl {ps : List Int} (h : P7 ps) : Pl ps := fun i hi => by
  rw [← gi_lt hi]
  exact (h.2 _ (List.getElem_mem hi)).1
theorem P7.le {ps : List Int} (h : P7 ps) {i : Nat} (hi : i < ps.length) : 0 ≤ gi ps i ∧ gi ps i ≤ 7 := by
  rw [← gi_lt hi]
  exact h.2 _ (List.getElem_mem hi)
theorem last_map {l : List Int} (h : 0 < l.length) : atI (l.map T.int) (-1) = some (.int (gi l (l.length - 1))) := by
  rw [atI_last (by simpa using h)]
  simp only [List.length_map, List.getElem_map]
  rw [gi_lt]
theorem gi_app1 {l : List Int} {x : Int} {i : Nat} (h : i < l.length) : gi (l ++ [x]) i = gi l i := by
  unfold gi
  rw [List.getD_eq_getElem?_getD, List.getD_eq_getElem?_getD, List.getElem?_append_left h]
theorem gi_app2 {l : List Int} {x : Int} : gi (l ++ [x]) l.length = x := by
  unfold gi
  simp
theorem state_drawn_ok (ns : List Int) (p r f : Int) (ps : List Int) (hp : P7 ps) : ∃ (st : List Int) (r' f' : Int), Sta ps st ∧
    f_law_state_drawn [.ln (PoolT ns p r f), .fr (eLI ps)] = some (⟨eLI st, true⟩, [.ln (PoolT ns p r' f'), .fr (eLI ps)]) := by
  obtain ⟨v, r1, f1, hd, v0, v1⟩ := draw_ok ns p r f 21 (by decide) (by decide +kernel)
  obtain ⟨τ', h, st, r2, f2, s3, g3, hl, hst, rfl⟩ := loopS_inv (g := gN 3) (body := law_state_drawn_p2b)
    (fun i τ => ∃ (st : List Int) (r2 f2 : Int) (s3 : Sl), s3.isLn = false ∧ st.length = i + 1 ∧ (∀ j, j < i → 0 ≤ gi st j - gi st (j + 1) ∧ gi st j - gi st (j + 1) ≤ gi ps j) ∧ τ = [.ln (PoolT ns p r2 f2), .fr (eLI ps), .ow (eLI st), s3]) (ps.map T.int) 0
    (fun i d τ hd' hI => by
      rw [Nat.zero_add] at hI ⊢
      obtain ⟨st, r2, f2, s3, g3, hl, hst, rfl⟩ := hI
      have hi : i < ps.length := by
        have := (List.getElem?_eq_some_iff.mp hd').1
        simpa using this
      have ed : d = .int (gi ps i) := by
        rw [List.getElem?_map, List.getElem?_eq_getElem hi, gi_lt hi] at hd'
        cases hd'
        rfl
      subst ed
      have hq := hp.le hi
      obtain ⟨w, r3, f3, hdr, w0, w1⟩ := draw_ok ns p r2 f2 (gi ps i + 1) (by omega) (fdivOk_small _ (by omega) (by omega))
      have ha := last_map (l := st) (by omega)
      rw [hl, Nat.add_sub_cancel] at ha
      have hap := eLI_app st (gi st i - w)
      have sz : st.length < sizeLine := by have := one_lt_line; have := hp.1; omega
      refine ⟨[.ln (PoolT ns p r3 f3), .fr (eLI ps), .ow (eLI (st ++ [gi st i - w])), .fr (.int (gi ps i))], ?_, st ++ [gi st i - w], r3, f3, _, rfl, by simp [hl], fun j hj => ?_, rfl⟩
      · generalize st ++ [gi st i - w] = Y at *
        simp [law_state_drawn_p2b, g3, ha, hdr, sz, hap]
      · by_cases c : j = i
        · subst c
          have e1 := gi_app2 (l := st) (x := gi st j - w)
          rw [hl] at e1
          rw [e1, gi_app1 (by omega)]
          omega
        · rw [gi_app1 (by omega), gi_app1 (by omega)]
          exact hst j (by omega)) [.ln (PoolT ns p r1 f1), .fr (eLI ps), .ow (eLI [v - 10]), .no] ⟨[v - 10], r1, f1, .no, rfl, rfl, fun j hj => absurd hj (by omega), rfl⟩
  rw [List.length_map, Nat.zero_add] at hl hst
  refine ⟨st, r2, f2, ⟨hl, hst⟩, ?_⟩
  have sz1 : 1 ≤ sizeLine := by decide
  change loopS _ _ _ [.ln (PoolT ns p r1 f1), .fr (eLI ps), .ow (.lst [.int (v - 10)]), .no] = _ at h
  unfold f_law_state_drawn
  rw [b_law_state_drawn_eq]
  simp [law_state_drawn_p, law_state_drawn_p1, law_state_drawn_p2, hd, sz1, h]
end TR

namespace TR
open PySem L2

theorem p1_ok (ns : List Int) : ∃ r : Int, law_p1 ([.fr (.frl (ns.map .int))] ++ List.replicate 24 .no) = some (.nx [.fr (.frl (ns.map .int)), .ow (PoolT ns 0 r 0), .no, .no, .no, .no, .no, .no, .no, .no, .no, .no, .no, .no, .no, .no, .no, .no, .no, .no, .no, .no, .no, .no, .no]) := by
  obtain ⟨r, h⟩ := pool_ok ns
  exact ⟨r, by simp [law_p1, h]⟩
theorem p2_ok (S : Sl) (ns : List Int) (p r f : Int) : ∃ (ps : List Int) (r' f' : Int), P7 ps ∧ law_p2 [S, .ow (PoolT ns p r f), .no, .no, .no, .no, .no, .no, .no, .no, .no, .no, .no, .no, .no, .no, .no, .no, .no, .no, .no, .no, .no, .no, .no] = some (.nx [S, .ow (PoolT ns p r' f'), .ow (eLI ps), .no, .no, .no, .no, .no, .no, .no, .no, .no, .no, .no, .no, .no, .no, .no, .no, .no, .no, .no, .no, .no, .no]) := by
  obtain ⟨v, r1, f1, hd, v0, v1⟩ := draw_ok ns p r f 4 (by decide) (by decide +kernel)
  have key := lcL_exE (g := gN 4) (cnd := yesB) (elt := law_p2e1) (own := [4]) (fun τ => ∃ r f : Int, τ = [S, .ow (PoolT ns p r f), .no, .no, .no, .no, .no, .no, .no, .no, .no, .no, .no, .no, .no, .no, .no, .no, .no, .no, .no, .no, .no, .no, .no]) (fun k : Nat => T.int k) T.int (fun _ x => 0 ≤ x ∧ x ≤ 7) (List.range v.toNat) (fun k _ τ ⟨r, f, e⟩ => by
    subst e
    obtain ⟨w, r2, f2, hw, w0, w1⟩ := draw_ok ns p r f 8 (by decide) (by decide +kernel)
    exact ⟨w, _, by simp [lcOne, law_p2e1, hw], ⟨r2, f2, rfl⟩, by omega⟩) [S, .ow (PoolT ns p r1 f1), .no, .no, .no, .no, .no, .no, .no, .no, .no, .no, .no, .no, .no, .no, .no, .no, .no, .no, .no, .no, .no, .no, .no] ⟨r1, f1, rfl⟩
  obtain ⟨ps, τ', hl, ⟨r2, f2, rfl⟩, hlen, hP⟩ := key
  rw [List.length_range] at hlen
  rw [← rngT0] at hl
  refine ⟨ps, r2, f2, ⟨by omega, fun x hx => ?_⟩, ?_⟩
  · obtain ⟨i, hi, e⟩ := List.mem_iff_getElem.mp hx
    exact hP i i x (by rw [List.getElem?_range (by omega)]) (by rw [List.getElem?_eq_getElem hi, e])
  · have q1 := rgOk_i v (by omega) (by omega)
    have q2 : rgOk 0 = true := by decide +kernel
    have sz : ps.length ≤ sizeLine := by have := one_lt_line; omega
    simp [law_p2, hd, q1, q2, hl, sz]
theorem p3_ok (S : Sl) (ns : List Int) (p r f : Int) (ps : List Int) (hp : P7 ps) : ∃ (st : List Int) (r' f' : Int), Sta ps st ∧ law_p3 [S, .ow (PoolT ns p r f), .ow (eLI ps), .no, .no, .no, .no, .no, .no, .no, .no, .no, .no, .no, .no, .no, .no, .no, .no, .no, .no, .no, .no, .no, .no] = some (.nx [S, .ow (PoolT ns p r' f'), .fr (eLI ps), .ow (eLI st), .no, .no, .no, .no, .no, .no, .no, .no, .no, .no, .no, .no, .no, .no, .no, .no, .no, .no, .no, .no, .no]) := by
  obtain ⟨st, r1, f1, hs, h⟩ := state_drawn_ok ns p r f ps hp
  exact ⟨st, r1, f1, hs, by simp [law_p3, h]⟩
theorem same_bl (b : Bool) : f_law_same [.fr (.bl b), .fr (.bl b)] = some (⟨.bl true, false⟩, [.fr (.bl b), .fr (.bl b)]) := same_ok _ trivial
section
variable (S : Sl) (ns : List Int) (ps st : List Int) (hp : P7 ps) (hs : Sta ps st)
include hp hs
theorem p4_ok (p : Sl) : law_p4 [S, p, .fr (eLI ps), .ow (eLI st), .no, .no, .no, .no, .no, .no, .no, .no, .no, .no, .no, .no, .no, .no, .no, .no, .no, .no, .no, .no, .no] = some (.nx [S, p, .fr (eLI ps), .ow (eLI st), .no, .no, .no, .no, .no, .no, .no, .no, .no, .no, .no, .no, .no, .no, .no, .no, .no, .no, .no, .no, .no]) := by
  have h := is_state_ok ps st hs.1 (by have := hp.1; omega)
  rw [staB_yes hs] at h
  simp [law_p4, h]
theorem bent_ok (p r f : Int) (s20 s23 : Sl) (k : Nat) (d : T) (bt : List Int) (hb : bt.length = ps.length + 1) (g20 : s20.isLn = false) : law_p5b5 [S, .ow (PoolT ns p r f), .fr (eLI ps), .ow (eLI st), .fr d, .no, .no, .no, .no, .no, .no, .no, .no, .no, .no, .no, .no, .no, .ow (eLI bt), .fr (.int (k : Nat)), s20, .no, .no, .no, .no] = some (.nx [S, .ow (PoolT ns p r f), .fr (eLI ps), .ow (eLI st), .fr d, .no, .no, .no, .no, .no, .no, .no, .no, .no, .no, .no, .no, .no, .ow (eLI bt), .fr (.int (k : Nat)), .fr (.bl (staB ps bt)), .no, .no, .no, .no]) := by
  have h2 : lcL (gN 23) yesB law_p5b5e1 [23] (rngT 0 ps.length) [S, .ow (PoolT ns p r f), .fr (eLI ps), .ow (eLI st), .fr d, .no, .no, .no, .no, .no, .no, .no, .no, .no, .no, .no, .no, .no, .ow (eLI bt), .fr (.int (k : Nat)), s20, .no, .no, .no, .no] =
      some ((List.range ps.length).map (fun j => T.bl (decide (0 ≤ gi bt j - gi bt (j + 1)) && decide (gi bt j - gi bt (j + 1) ≤ gi ps j))), [S, .ow (PoolT ns p r f), .fr (eLI ps), .ow (eLI st), .fr d, .no, .no, .no, .no, .no, .no, .no, .no, .no, .no, .no, .no, .no, .ow (eLI bt), .fr (.int (k : Nat)), s20, .no, .no, .no, .no]) := by
    rw [rngT0]
    refine lcL_mapE _ _ _ fun j hj => ?_
    have hj := List.mem_range.mp hj
    have a1 := at_row (l := bt) (i := j) (by omega)
    have a3 := at_row (l := ps) (i := j) hj
    have a2 : atI (bt.map T.int) ((j : Int) + 1) = some (.int (gi bt (j + 1))) := at_rowI (i := j + 1) (by omega) (by omega)
    generalize ((j : Nat) : Int) = I at *
    generalize gi bt j = u at *
    generalize gi bt (j + 1) = v at *
    by_cases c : v ≤ u
    · simp [lcOne, law_p5b5e1, a1, a2, a3, c]
    · simp [lcOne, law_p5b5e1, a1, a2, a3, c]
  have a2 : allG [.lst ((List.range ps.length).map (fun j => T.bl (decide (0 ≤ gi bt j - gi bt (j + 1)) && decide (gi bt j - gi bt (j + 1) ≤ gi ps j))))] = some ⟨.bl (staB ps bt), false⟩ := all_lst _ _
  have hZ : ((List.range ps.length).map (fun j => T.bl (decide (0 ≤ gi bt j - gi bt (j + 1)) && decide (gi bt j - gi bt (j + 1) ≤ gi ps j)))).length = ps.length := by simp
  generalize (List.range ps.length).map (fun j => T.bl (decide (0 ≤ gi bt j - gi bt (j + 1)) && decide (gi bt j - gi bt (j + 1) ≤ gi ps j))) = Z at *
  have hpl := hp.1
  have q1 := rgOk_n ps.length (by omega)
  have q2 : rgOk 0 = true := by decide +kernel
  have sz : ps.length ≤ sizeLine := by have := one_lt_line; omega
  simp [law_p5b5, h2, a2, hZ, q1, q2, sz, g20]
theorem p5_ok (p r f : Int) : ∃ (p' r' f' : Int) (s4 s18 s19 s20 : Sl), s4.isLn = false ∧ s18.isLn = false ∧ s19.isLn = false ∧ s20.isLn = false ∧ law_p5 [S, .ow (PoolT ns p r f), .fr (eLI ps), .ow (eLI st), .no, .no, .no, .no, .no, .no, .no, .no, .no, .no, .no, .no, .no, .no, .no, .no, .no, .no, .no, .no, .no] = some (.nx [S, .ow (PoolT ns p' r' f'), .fr (eLI ps), .ow (eLI st), s4, .no, .no, .no, .no, .no, .no, .no, .no, .no, .no, .no, .no, .no, s18, s19, s20, .no, .no, .no, .no]) := by
  obtain ⟨τ', h, p', r', f', s4, s18, s19, s20, g4, g18, g19, g20, rfl⟩ := loopS_inv (g := gN 4) (body := law_p5b) (fun i τ => ∃ (p r f : Int) (s4 s18 s19 s20 : Sl), s4.isLn = false ∧ s18.isLn = false ∧ s19.isLn = false ∧ s20.isLn = false ∧ τ = [S, .ow (PoolT ns p r f), .fr (eLI ps), .ow (eLI st), s4, .no, .no, .no, .no, .no, .no, .no, .no, .no, .no, .no, .no, .no, s18, s19, s20, .no, .no, .no, .no]) (rngT 0 3) 0
    (fun i d τ _ hI => by
      obtain ⟨p, r, f, s4, s18, s19, s20, g4, g18, g19, g20, rfl⟩ := hI
      obtain ⟨r1, hnx⟩ := next_ok ns p r f
      have hsl := hs.1
      have hpl := hp.1
      have e0 : gN 4 d [S, .ow (PoolT ns p r f), .fr (eLI ps), .ow (eLI st), s4, .no, .no, .no, .no, .no, .no, .no, .no, .no, .no, .no, .no, .no, s18, s19, s20, .no, .no, .no, .no] = some [S, .ow (PoolT ns p r f), .fr (eLI ps), .ow (eLI st), .fr d, .no, .no, .no, .no, .no, .no, .no, .no, .no, .no, .no, .no, .no, s18, s19, s20, .no, .no, .no, .no] := by simp [g4]
      have e1 : law_p5b1 [S, .ow (PoolT ns p r f), .fr (eLI ps), .ow (eLI st), .fr d, .no, .no, .no, .no, .no, .no, .no, .no, .no, .no, .no, .no, .no, s18, s19, s20, .no, .no, .no, .no] = some (.nx [S, .ow (PoolT ns (p + 1) r1 0), .fr (eLI ps), .ow (eLI st), .fr d, .no, .no, .no, .no, .no, .no, .no, .no, .no, .no, .no, .no, .no, s18, s19, s20, .no, .no, .no, .no]) := by simp [law_p5b1, hnx]
      have e2 : law_p5b2 [S, .ow (PoolT ns (p + 1) r1 0), .fr (eLI ps), .ow (eLI st), .fr d, .no, .no, .no, .no, .no, .no, .no, .no, .no, .no, .no, .no, .no, s18, s19, s20, .no, .no, .no, .no] = some (.nx [S, .ow (PoolT ns (p + 1) r1 0), .fr (eLI ps), .ow (eLI st), .fr d, .no, .no, .no, .no, .no, .no, .no, .no, .no, .no, .no, .no, .no, .ow (eLI st), s19, s20, .no, .no, .no, .no]) := by simp [law_p5b2, g18]
      obtain ⟨v, r2, f2, hdr, v0, v1⟩ := draw_ok ns (p + 1) r1 0 (st.length : Int) (by omega) (fdivOk_small _ (by omega) (by omega))
      obtain ⟨k, rfl⟩ : ∃ k : Nat, v = k := ⟨v.toNat, by omega⟩
      have hk : k < st.length := by omega
      have e3 : law_p5b3 [S, .ow (PoolT ns (p + 1) r1 0), .fr (eLI ps), .ow (eLI st), .fr d, .no, .no, .no, .no, .no, .no, .no, .no, .no, .no, .no, .no, .no, .ow (eLI st), s19, s20, .no, .no, .no, .no] = some (.nx [S, .ow (PoolT ns (p + 1) r2 f2), .fr (eLI ps), .ow (eLI st), .fr d, .no, .no, .no, .no, .no, .no, .no, .no, .no, .no, .no, .no, .no, .ow (eLI st), .fr (.int (k : Nat)), s20, .no, .no, .no, .no]) := by simp [law_p5b3, hdr, g19]
      obtain ⟨w, r3, f3, hdw, w0, w1⟩ := draw_ok ns (p + 1) r2 f2 9 (by decide) (by decide +kernel)
      have a1 := at_row hk
      have a2 : ixN st.length (k : Int) = some k := ixN_nat hk
      have a3 : (st.map T.int).set k (.int (gi st k + w - 4)) = (st.set k (gi st k + w - 4)).map T.int := by rw [List.map_set]
      have hbl : (st.set k (gi st k + w - 4)).length = ps.length + 1 := by rw [List.length_set, hsl]
      generalize st.set k (gi st k + w - 4) = bt at *
      have e4 : law_p5b4 [S, .ow (PoolT ns (p + 1) r2 f2), .fr (eLI ps), .ow (eLI st), .fr d, .no, .no, .no, .no, .no, .no, .no, .no, .no, .no, .no, .no, .no, .ow (eLI st), .fr (.int (k : Nat)), s20, .no, .no, .no, .no] = some (.nx [S, .ow (PoolT ns (p + 1) r3 f3), .fr (eLI ps), .ow (eLI st), .fr d, .no, .no, .no, .no, .no, .no, .no, .no, .no, .no, .no, .no, .no, .ow (eLI bt), .fr (.int (k : Nat)), s20, .no, .no, .no, .no]) := by simp [law_p5b4, hdw, a1, a2, a3]
      have e5 := bent_ok S ns ps st hp hs (p + 1) r3 f3 s20 .no k d bt hbl g20
      have hi := is_state_ok ps bt hbl (by omega)
      have hsm := same_bl (staB ps bt)
      have e6 : law_p5b6 [S, .ow (PoolT ns (p + 1) r3 f3), .fr (eLI ps), .ow (eLI st), .fr d, .no, .no, .no, .no, .no, .no, .no, .no, .no, .no, .no, .no, .no, .ow (eLI bt), .fr (.int (k : Nat)), .fr (.bl (staB ps bt)), .no, .no, .no, .no] = some (.nx [S, .ow (PoolT ns (p + 1) r3 f3), .fr (eLI ps), .ow (eLI st), .fr d, .no, .no, .no, .no, .no, .no, .no, .no, .no, .no, .no, .no, .no, .fr (eLI bt), .fr (.int (k : Nat)), .fr (.bl (staB ps bt)), .no, .no, .no, .no]) := by
        generalize staB ps bt = b at *
        simp [law_p5b6, hi, hsm]
      refine ⟨[S, .ow (PoolT ns (p + 1) r3 f3), .fr (eLI ps), .ow (eLI st), .fr d, .no, .no, .no, .no, .no, .no, .no, .no, .no, .no, .no, .no, .no, .fr (eLI bt), .fr (.int (k : Nat)), .fr (.bl (staB ps bt)), .no, .no, .no, .no], ?_, p + 1, r3, f3, .fr d, .fr (eLI bt), .fr (.int (k : Nat)), .fr (.bl (staB ps bt)), rfl, rfl, rfl, rfl, rfl⟩
      rw [e0, Option.bind_some]
      unfold law_p5b
      exact sq_nx e1 (sq_nx e2 (sq_nx e3 (sq_nx e4 (sq_nx e5 e6))))) [S, .ow (PoolT ns p r f), .fr (eLI ps), .ow (eLI st), .no, .no, .no, .no, .no, .no, .no, .no, .no, .no, .no, .no, .no, .no, .no, .no, .no, .no, .no, .no, .no] ⟨p, r, f, .no, .no, .no, .no, rfl, rfl, rfl, rfl, rfl⟩
  refine ⟨p', r', f', s4, s18, s19, s20, g4, g18, g19, g20, ?_⟩
  have q1 := rgOk_i 3 (by omega) (by omega)
  have q2 : rgOk 0 = true := by decide +kernel
  simp [law_p5, h, q1, q2]
end
end TR

namespace TR
open PySem L2
theorem mul_rep (x : T) (n : Nat) (h1 : 1 ≤ n) (h : n ≤ 4) : mulG (.lst [x]) (.int (n : Nat)) = some ⟨.lst (List.replicate n x), true⟩ := by
  have e : n = 1 ∨ n = 2 ∨ n = 3 ∨ n = 4 := by omega
  rcases e with rfl | rfl | rfl | rfl <;> kernel_rfl
theorem p6_gen (S p s4 s18 s19 s20 : Sl) (E D Y0 Y1 Y2 Y3 Y4 : T) (L : Int) (h0 : tupleG [D] = some ⟨Y0, false⟩) (h1 : slG D (some 1) none = some ⟨Y1, true⟩) (hl : lenG [D] = some ⟨.int L, false⟩)
    (h4 : addG D (.lst [.int 0]) = some ⟨Y4, true⟩) (h2 : mulG (.lst [.bl true]) (.int L) = some ⟨Y2, true⟩) (h3 : mulG (.lst [.str "1"]) (.int L) = some ⟨Y3, true⟩)
    (hX : lcL (gN 22) yesB law_p6e1 [22] [T.non, Y0, Y1, Y4, Y2, Y3] [S, p, .fr E, .ow D, s4, .no, .no, .no, .no, .no, .no, .no, .no, .no, .no, .no, .no, .no, s18, s19, s20, .no, .no, .no, .no] = some ([T.bl false, .bl false, .bl false, .bl false, .bl false, .bl false], [S, p, .fr E, .ow D, s4, .no, .no, .no, .no, .no, .no, .no, .no, .no, .no, .no, .no, .no, s18, s19, s20, .no, .no, .no, .no])) : law_p6 [S, p, .fr E, .ow D, s4, .no, .no, .no, .no, .no, .no, .no, .no, .no, .no, .no, .no, .no, s18, s19, s20, .no, .no, .no, .no] = some (.nx [S, p, .fr E, .ow D, s4, .no, .no, .no, .no, .no, .no, .no, .no, .no, .no, .no, .no, .no, s18, s19, s20, .no, .no, .no, .no]) := by
  have sz6 : 6 ≤ sizeLine := by decide
  have sz1 : 1 ≤ sizeLine := by decide
  have hA : anyG [.lst [T.bl false, .bl false, .bl false, .bl false, .bl false, .bl false]] = some ⟨.bl false, false⟩ := rfl
  simp [law_p6, h0, h1, hl, h4, h2, h3, hX, hA, sz6, sz1]
section
variable (S : Sl) (ns : List Int) (ps st : List Int) (hp : P7 ps) (hs : Sta ps st)
include hp hs
theorem p6_ok (p s4 s18 s19 s20 : Sl) : law_p6 [S, p, .fr (eLI ps), .ow (eLI st), s4, .no, .no, .no, .no, .no, .no, .no, .no, .no, .no, .no, .no, .no, s18, s19, s20, .no, .no, .no, .no] = some (.nx [S, p, .fr (eLI ps), .ow (eLI st), s4, .no, .no, .no, .no, .no, .no, .no, .no, .no, .no, .no, .no, .no, s18, s19, s20, .no, .no, .no, .no]) := by
  have hsl := hs.1
  have hpl := hp.1
  have hall : ∀ x ∈ [T.non, .tup (st.map T.int), .lst (st.map T.int).tail, .lst (st.map T.int ++ [.int 0]), .lst (List.replicate st.length (.bl true)), .lst (List.replicate st.length (.str "1"))], f_is_state [.fr (eLI ps), .fr x] = some (⟨.bl false, false⟩, [.fr (eLI ps), .fr x]) := by
    intro x hx
    simp only [List.mem_cons, List.not_mem_nil, or_false] at hx
    rcases hx with rfl | rfl | rfl | rfl | rfl | rfl
    · exact is_state_no1 ps _ rfl
    · exact is_state_no1 ps _ rfl
    · exact is_state_no2 ps _ (by simp; omega)
    · exact is_state_no2 ps _ (by simp; omega)
    · exact is_state_no3 ps _ _ (.inr rfl) hsl (by omega)
    · exact is_state_no3 ps _ _ (.inl rfl) hsl (by omega)
  have b1 : slG (eLI st) (some 1) none = some ⟨.lst (st.map T.int).tail, true⟩ := by
    show some (R.mk (.lst (cutT (st.map T.int) (some 1) none)) true) = _
    rw [cut_tail]
  have b2 : ∀ x : T, mulG (.lst [x]) (.int (st.length : Nat)) = some ⟨.lst (List.replicate st.length x), true⟩ := fun x => mul_rep x _ (by omega) (by omega)
  have b3 : st.length + 1 ≤ sizeLine := by have := one_lt_line; omega
  have sz6 : 6 ≤ sizeLine := by decide
  have sz1 : 1 ≤ sizeLine := by decide
  have b4 : addG (eLI st) (.lst [.int 0]) = some ⟨.lst (st.map T.int ++ [.int 0]), true⟩ := by
    simp [b3]
  have hX : lcL (gN 22) yesB law_p6e1 [22] ([T.non, .tup (st.map T.int), .lst (st.map T.int).tail, .lst (st.map T.int ++ [.int 0]), .lst (List.replicate st.length (.bl true)), .lst (List.replicate st.length (.str "1"))].map id) [S, p, .fr (eLI ps), .ow (eLI st), s4, .no, .no, .no, .no, .no, .no, .no, .no, .no, .no, .no, .no, .no, s18, s19, s20, .no, .no, .no, .no] = some ([T.non, .tup (st.map T.int), .lst (st.map T.int).tail, .lst (st.map T.int ++ [.int 0]), .lst (List.replicate st.length (.bl true)), .lst (List.replicate st.length (.str "1"))].map (fun _ => T.bl false), [S, p, .fr (eLI ps), .ow (eLI st), s4, .no, .no, .no, .no, .no, .no, .no, .no, .no, .no, .no, .no, .no, s18, s19, s20, .no, .no, .no, .no]) :=
    lcL_mapE _ _ _ fun x hx => by
      have := hall x hx
      simp [lcOne, law_p6e1, this]
  rw [List.map_id] at hX
  exact p6_gen S p s4 s18 s19 s20 _ _ _ _ _ _ _ _ (by simp) b1 (by simp) b4 (b2 _) (b2 _) hX
end
end TR

namespace TR
open PySem L2
section
variable (S : Sl) (ns : List Int) (ps st : List Int) (hp : P7 ps) (hs : Sta ps st)
include hp hs
theorem p7_ok (p r f : Int) (s4 s18 s19 s20 : Sl) (g4 : s4.isLn = false) : ∃ (nb : List Int) (r' f' : Int), (nb.length ≤ 4 ∧ ∀ x ∈ nb, -15 ≤ x ∧ x ≤ 15) ∧ law_p7 [S, .ow (PoolT ns p r f), .fr (eLI ps), .ow (eLI st), s4, .no, .no, .no, .no, .no, .no, .no, .no, .no, .no, .no, .no, .no, s18, s19, s20, .no, .no, .no, .no] = some (.nx [S, .ow (PoolT ns p r' f'), .fr (eLI ps), .ow (eLI st), s4, .ow (eLI nb), .no, .no, .no, .no, .no, .no, .no, .no, .no, .no, .no, .no, s18, s19, s20, .no, .no, .no, .no]) := by
  obtain ⟨v, r1, f1, hd, v0, v1⟩ := draw_ok ns p r f 5 (by decide) (by decide +kernel)
  obtain ⟨nb, τ', hl, ⟨r2, f2, rfl⟩, hlen, hP⟩ := lcL_exE (g := gN 4) (cnd := yesB) (elt := law_p7e1) (own := [4]) (fun τ => ∃ r f : Int, τ = [S, .ow (PoolT ns p r f), .fr (eLI ps), .ow (eLI st), .no, .no, .no, .no, .no, .no, .no, .no, .no, .no, .no, .no, .no, .no, s18, s19, s20, .no, .no, .no, .no]) (fun k : Nat => T.int k) T.int (fun _ x => -15 ≤ x ∧ x ≤ 15) (List.range v.toNat) (fun k _ τ ⟨r, f, e⟩ => by
    subst e
    obtain ⟨w, r2, f2, hw, w0, w1⟩ := draw_ok ns p r f 31 (by decide) (by decide +kernel)
    exact ⟨w - 15, _, by simp [lcOne, law_p7e1, hw], ⟨r2, f2, rfl⟩, by omega⟩) [S, .ow (PoolT ns p r1 f1), .fr (eLI ps), .ow (eLI st), .no, .no, .no, .no, .no, .no, .no, .no, .no, .no, .no, .no, .no, .no, s18, s19, s20, .no, .no, .no, .no] ⟨r1, f1, rfl⟩
  rw [List.length_range] at hlen
  rw [← rngT0] at hl
  refine ⟨nb, r2, f2, ⟨by omega, fun x hx => ?_⟩, ?_⟩
  · obtain ⟨i, hi, e⟩ := List.mem_iff_getElem.mp hx
    exact hP i i x (by rw [List.getElem?_range (by omega)]) (by rw [List.getElem?_eq_getElem hi, e])
  · have q1 := rgOk_i v (by omega) (by omega)
    have q2 : rgOk 0 = true := by decide +kernel
    have sz : nb.length ≤ sizeLine := by have := one_lt_line; omega
    simp [law_p7, hd, q1, q2, hl, sz]
theorem p8_ok (p r f : Int) (s4 s18 s19 s20 : Sl) (nb : List Int) : law_p8 [S, .ow (PoolT ns p r f), .fr (eLI ps), .ow (eLI st), s4, .ow (eLI nb), .no, .no, .no, .no, .no, .no, .no, .no, .no, .no, .no, .no, s18, s19, s20, .no, .no, .no, .no] = some (.nx [S, .ow (PoolT ns p r f), .fr (eLI ps), .ow (eLI st), s4, .ow (eLI nb), .ow (eLI st), .no, .no, .no, .no, .no, .no, .no, .no, .no, .no, .no, s18, s19, s20, .no, .no, .no, .no]) := by simp [law_p8]
theorem p9_ok (p r f : Int) (s4 s18 s19 s20 : Sl) (nb : List Int) : law_p9 [S, .ow (PoolT ns p r f), .fr (eLI ps), .ow (eLI st), s4, .ow (eLI nb), .ow (eLI st), .no, .no, .no, .no, .no, .no, .no, .no, .no, .no, .no, s18, s19, s20, .no, .no, .no, .no] = some (.nx [S, .ow (PoolT ns p r f), .fr (eLI ps), .ow (eLI st), s4, .ow (eLI nb), .ow (eLI st), .ow (eLI st), .no, .no, .no, .no, .no, .no, .no, .no, .no, .no, s18, s19, s20, .no, .no, .no, .no]) := by simp [law_p9]
theorem p10_ok (p r f : Int) (s4 s18 s19 s20 : Sl) (nb : List Int) : ∃ (m : Nat) (r' f' : Int), 2 ≤ m ∧ m ≤ 12 ∧ law_p10 [S, .ow (PoolT ns p r f), .fr (eLI ps), .ow (eLI st), s4, .ow (eLI nb), .ow (eLI st), .ow (eLI st), .no, .no, .no, .no, .no, .no, .no, .no, .no, .no, s18, s19, s20, .no, .no, .no, .no] = some (.nx [S, .ow (PoolT ns p r' f'), .fr (eLI ps), .ow (eLI st), s4, .ow (eLI nb), .ow (eLI st), .ow (eLI st), .fr (.int (m : Nat)), .no, .no, .no, .no, .no, .no, .no, .no, .no, s18, s19, s20, .no, .no, .no, .no]) := by
  obtain ⟨v, r1, f1, hd, v0, v1⟩ := draw_ok ns p r f 11 (by decide) (by decide +kernel)
  refine ⟨(2 + v).toNat, r1, f1, by omega, by omega, ?_⟩
  have e : (((2 + v).toNat : Nat) : Int) = 2 + v := by omega
  rw [e]
  simp [law_p10, hd]
end
end TR

namespace TR
open PySem L2

theorem same_row (l : List Int) (h : l.length ≤ 100000) : f_law_same [.fr (eLI l), .fr (eLI l)] = some (⟨.bl true, false⟩, [.fr (eLI l), .fr (eLI l)]) :=
  same_ok _ ⟨by rw [List.length_map]; exact h, fun x hx => by
    obtain ⟨i, _, rfl⟩ := List.mem_map.mp hx
    trivial⟩
section
variable (S : Sl) (ns : List Int) (ps st : List Int) (hp : P7 ps) (hs : Sta ps st)
include hp hs
theorem p11_ok (p r f : Int) (s4 s18 s19 s20 : Sl) (nb : List Int) (m : Nat) (hn : ∀ x ∈ nb, -15 ≤ x ∧ x ≤ 15) : ∃ s7 s9 s21 : Sl, Hd s7 (eLI (tby ps st nb)) ∧ s9.isLn = false ∧ s21.isLn = false ∧ law_p11 [S, .ow (PoolT ns p r f), .fr (eLI ps), .ow (eLI st), s4, .ow (eLI nb), .ow (eLI st), .ow (eLI st), .fr (.int (m : Nat)), .no, .no, .no, .no, .no, .no, .no, .no, .no, s18, s19, s20, .no, .no, .no, .no] = some (.nx [S, .ow (PoolT ns p r f), .fr (eLI ps), .ow (eLI st), s4, .fr (eLI nb), .ow (eLI st), s7, .fr (.int (m : Nat)), s9, .no, .no, .no, .no, .no, .no, .no, .no, s18, s19, s20, s21, .no, .no, .no]) := by
  obtain ⟨τ', h, hsf, s7, s9, s21, h7, g9, g21, rfl⟩ := loopS_rel (g := gN 9) (body := law_p11b) (fun (s : List Int) τ => Sta ps s ∧ ∃ s7 s9 s21 : Sl, Hd s7 (eLI s) ∧ s9.isLn = false ∧ s21.isLn = false ∧ τ = [S, .ow (PoolT ns p r f), .fr (eLI ps), .ow (eLI st), s4, .fr (eLI nb), .ow (eLI st), s7, .fr (.int (m : Nat)), s9, .no, .no, .no, .no, .no, .no, .no, .no, s18, s19, s20, s21, .no, .no, .no]) T.int (tnd ps) nb
    (fun s τ x hx ⟨hss, s7, s9, s21, h7, g9, g21, e⟩ => by
      subst e
      have hpl := hp.1
      have hsl := hss.1
      have hxb := hn x hx
      have ht := turned_ok ps s x hsl (by omega)
      have hst := stepped_ok ps s x hp.pl hss (by omega) (by omega) (by omega)
      have hsm := same_row (tnd ps s x) (by rw [tnd_len]; omega)
      have ht2 := turned_ok ps (s.map (· + (m : Int))) x (by rw [List.length_map, hsl]) (by omega)
      rw [tnd_shift hsl] at ht2
      have hsm2 := same_row ((tnd ps s x).map (· + (m : Int))) (by rw [List.length_map, tnd_len]; omega)
      have hY := (sta_tnd (ps := ps) (st := s) (n := x) hp.pl)
      have hYl := hY.1
      refine ⟨[S, .ow (PoolT ns p r f), .fr (eLI ps), .ow (eLI st), s4, .fr (eLI nb), .ow (eLI st), .fr (eLI (tnd ps s x)), .fr (.int (m : Nat)), .fr (.int x), .no, .no, .no, .no, .no, .no, .no, .no, s18, s19, s20, .fr (eLI (tnd ps s x)), .no, .no, .no], ?_, hY, .fr (eLI (tnd ps s x)), .fr (.int x), .fr (eLI (tnd ps s x)), .fr, rfl, rfl, rfl⟩
      generalize tnd ps s x = Y at *
      have hv := h7.v
      have hsl7 := h7.sl
      have c1 : lcL (gN 24) yesB law_p11b2e1 [24] (s.map T.int) [S, .ow (PoolT ns p r f), .fr (eLI ps), .ow (eLI st), s4, .fr (eLI nb), .ow (eLI st), .fr (eLI s), .fr (.int (m : Nat)), .fr (.int x), .no, .no, .no, .no, .no, .no, .no, .no, s18, s19, s20, .fr (eLI Y), .no, .no, .no] = some ((s.map (· + (m : Int))).map T.int, [S, .ow (PoolT ns p r f), .fr (eLI ps), .ow (eLI st), s4, .fr (eLI nb), .ow (eLI st), .fr (eLI s), .fr (.int (m : Nat)), .fr (.int x), .no, .no, .no, .no, .no, .no, .no, .no, s18, s19, s20, .fr (eLI Y), .no, .no, .no]) := by
        rw [List.map_map]
        exact lcL_mapE _ _ _ fun y _ => by simp [lcOne, law_p11b2e1]
      have c2 : lcL (gN 24) yesB law_p11b2e2 [24] (Y.map T.int) [S, .ow (PoolT ns p r f), .fr (eLI ps), .ow (eLI st), s4, .fr (eLI nb), .ow (eLI st), .fr (eLI s), .fr (.int (m : Nat)), .fr (.int x), .no, .no, .no, .no, .no, .no, .no, .no, s18, s19, s20, .fr (eLI Y), .no, .no, .no] = some ((Y.map (· + (m : Int))).map T.int, [S, .ow (PoolT ns p r f), .fr (eLI ps), .ow (eLI st), s4, .fr (eLI nb), .ow (eLI st), .fr (eLI s), .fr (.int (m : Nat)), .fr (.int x), .no, .no, .no, .no, .no, .no, .no, .no, s18, s19, s20, .fr (eLI Y), .no, .no, .no]) := by
        rw [List.map_map]
        exact lcL_mapE _ _ _ fun y _ => by simp [lcOne, law_p11b2e2]
      have z1 : (s.map (· + (m : Int))).length ≤ sizeLine := by rw [List.length_map]; have := one_lt_line; omega
      have z2 : (Y.map (· + (m : Int))).length ≤ sizeLine := by rw [List.length_map]; have := one_lt_line; omega
      generalize s.map (· + (m : Int)) = SM at *
      generalize Y.map (· + (m : Int)) = YM at *
      generalize ((m : Nat) : Int) = M at *
      have e0 : gN 9 (.int x) [S, .ow (PoolT ns p r f), .fr (eLI ps), .ow (eLI st), s4, .fr (eLI nb), .ow (eLI st), s7, .fr (.int M), s9, .no, .no, .no, .no, .no, .no, .no, .no, s18, s19, s20, s21, .no, .no, .no] = some [S, .ow (PoolT ns p r f), .fr (eLI ps), .ow (eLI st), s4, .fr (eLI nb), .ow (eLI st), s7, .fr (.int M), .fr (.int x), .no, .no, .no, .no, .no, .no, .no, .no, s18, s19, s20, s21, .no, .no, .no] := by simp [g9]
      have e1 : law_p11b1 [S, .ow (PoolT ns p r f), .fr (eLI ps), .ow (eLI st), s4, .fr (eLI nb), .ow (eLI st), s7, .fr (.int M), .fr (.int x), .no, .no, .no, .no, .no, .no, .no, .no, s18, s19, s20, s21, .no, .no, .no] = some (.nx [S, .ow (PoolT ns p r f), .fr (eLI ps), .ow (eLI st), s4, .fr (eLI nb), .ow (eLI st), s7, .fr (.int M), .fr (.int x), .no, .no, .no, .no, .no, .no, .no, .no, s18, s19, s20, .ow (eLI Y), .no, .no, .no]) := by simp [law_p11b1, hsl7, g21, ht]
      have e2 : law_p11b2 [S, .ow (PoolT ns p r f), .fr (eLI ps), .ow (eLI st), s4, .fr (eLI nb), .ow (eLI st), s7, .fr (.int M), .fr (.int x), .no, .no, .no, .no, .no, .no, .no, .no, s18, s19, s20, .ow (eLI Y), .no, .no, .no] = some (.nx [S, .ow (PoolT ns p r f), .fr (eLI ps), .ow (eLI st), s4, .fr (eLI nb), .ow (eLI st), .fr (eLI s), .fr (.int M), .fr (.int x), .no, .no, .no, .no, .no, .no, .no, .no, s18, s19, s20, .fr (eLI Y), .no, .no, .no]) := by
        simp [law_p11b2, hv, hst, hsm, c1, c2, z1, z2, ht2, hsm2]
      rw [e0, Option.bind_some]
      unfold law_p11b
      refine sq_nx e1 (sq_nx e2 ?_)
      simp) st [S, .ow (PoolT ns p r f), .fr (eLI ps), .ow (eLI st), s4, .fr (eLI nb), .ow (eLI st), .ow (eLI st), .fr (.int (m : Nat)), .no, .no, .no, .no, .no, .no, .no, .no, .no, s18, s19, s20, .no, .no, .no, .no] ⟨hs, .ow (eLI st), .no, .no, .ow, rfl, rfl, rfl⟩
  refine ⟨s7, s9, s21, h7, g9, g21, ?_⟩
  simp [law_p11, h]
end
end TR

namespace TR
open PySem L2
section
variable (S : Sl) (ns : List Int) (ps st : List Int) (hp : P7 ps) (hs : Sta ps st)
include hp hs
theorem p12_ok (p r f : Int) (s4 s18 s19 s20 s7 s9 s21 : Sl) (nb : List Int) (m : Nat) (h7 : Hd s7 (eLI (tby ps st nb))) (hl : (tby ps st nb).length ≤ 1000) : law_p12 [S, .ow (PoolT ns p r f), .fr (eLI ps), .ow (eLI st), s4, .fr (eLI nb), .ow (eLI st), s7, .fr (.int (m : Nat)), s9, .no, .no, .no, .no, .no, .no, .no, .no, s18, s19, s20, s21, .no, .no, .no] = some (.nx [S, .ow (PoolT ns p r f), .fr (eLI ps), .ow (eLI st), s4, .fr (eLI nb), .fr (eLI st), .fr (eLI (tby ps st nb)), .fr (.int (m : Nat)), s9, .no, .no, .no, .no, .no, .no, .no, .no, s18, s19, s20, s21, .no, .no, .no]) := by
  have hb := turned_by_ok ps st nb hs.1 (by have := hp.1; omega)
  have hsm := same_row (tby ps st nb) (by omega)
  have hne := en_int.lst.neG (by decide) st st
  have hv := h7.v
  generalize tby ps st nb = H at *
  simp at hne
  simp [law_p12, hb, hv, hsm, hne]
theorem p13_ok (p r f : Int) (s4 s18 s19 s20 s9 s21 : Sl) (nb hr : List Int) (m : Nat) : ∃ r' : Int, law_p13 [S, .ow (PoolT ns p r f), .fr (eLI ps), .ow (eLI st), s4, .fr (eLI nb), .fr (eLI st), .fr (eLI hr), .fr (.int (m : Nat)), s9, .no, .no, .no, .no, .no, .no, .no, .no, s18, s19, s20, s21, .no, .no, .no] = some (.nx [S, .ow (PoolT ns (p + 1) r' 0), .fr (eLI ps), .ow (eLI st), s4, .fr (eLI nb), .fr (eLI st), .fr (eLI hr), .fr (.int (m : Nat)), s9, .no, .no, .no, .no, .no, .no, .no, .no, s18, s19, s20, s21, .no, .no, .no]) := by
  obtain ⟨r1, h⟩ := next_ok ns p r f
  exact ⟨r1, by simp [law_p13, h]⟩
theorem p14_ok (p r f : Int) (s4 s18 s19 s20 s9 s21 : Sl) (nb hr : List Int) (m : Nat) (m2 : 2 ≤ m) (m12 : m ≤ 12) : ∃ (gs : List Int) (r' f' : Int), (gs.length = st.length ∧ ∀ x ∈ gs, 0 ≤ x ∧ x < m) ∧ law_p14 [S, .ow (PoolT ns p r f), .fr (eLI ps), .ow (eLI st), s4, .fr (eLI nb), .fr (eLI st), .fr (eLI hr), .fr (.int (m : Nat)), s9, .no, .no, .no, .no, .no, .no, .no, .no, s18, s19, s20, s21, .no, .no, .no] = some (.nx [S, .ow (PoolT ns p r' f'), .fr (eLI ps), .fr (eLI st), s4, .fr (eLI nb), .fr (eLI st), .fr (eLI hr), .fr (.int (m : Nat)), s9, .ow (eLI gs), .no, .no, .no, .no, .no, .no, .no, s18, s19, s20, s21, .no, .no, .no]) := by
  obtain ⟨gs, τ', hl, ⟨r2, f2, rfl⟩, hlen, hP⟩ := lcL_exE (g := gN 15) (cnd := yesB) (elt := law_p14e1) (own := [15]) (fun τ => ∃ r f : Int, τ = [S, .ow (PoolT ns p r f), .fr (eLI ps), .fr (eLI st), s4, .fr (eLI nb), .fr (eLI st), .fr (eLI hr), .fr (.int (m : Nat)), s9, .no, .no, .no, .no, .no, .no, .no, .no, s18, s19, s20, s21, .no, .no, .no]) T.int T.int (fun _ x => 0 ≤ x ∧ x < m) st (fun k _ τ ⟨r, f, e⟩ => by
    subst e
    obtain ⟨w, r2, f2, hw, w0, w1⟩ := draw_ok ns p r f (m : Int) (by omega) (fdivOk_small _ (by omega) (by omega))
    exact ⟨w, _, by simp [lcOne, law_p14e1, hw], ⟨r2, f2, rfl⟩, by omega⟩) [S, .ow (PoolT ns p r f), .fr (eLI ps), .fr (eLI st), s4, .fr (eLI nb), .fr (eLI st), .fr (eLI hr), .fr (.int (m : Nat)), s9, .no, .no, .no, .no, .no, .no, .no, .no, s18, s19, s20, s21, .no, .no, .no] ⟨r, f, rfl⟩
  refine ⟨gs, r2, f2, ⟨hlen, fun x hx => ?_⟩, ?_⟩
  · obtain ⟨i, hi, e⟩ := List.mem_iff_getElem.mp hx
    exact hP i (st[i]'(by omega)) x (List.getElem?_eq_getElem (by omega)) (by rw [List.getElem?_eq_getElem hi, e])
  · have sz : gs.length ≤ sizeLine := by have := one_lt_line; have := hs.1; have := hp.1; omega
    simp [law_p14, hl, sz]
theorem p15_ok (p r f : Int) (s4 s18 s19 s20 s9 s21 : Sl) (nb hr gs : List Int) (m : Nat) : ∃ (t : Nat) (r' f' : Int), t ≤ 3 ∧ law_p15 [S, .ow (PoolT ns p r f), .fr (eLI ps), .fr (eLI st), s4, .fr (eLI nb), .fr (eLI st), .fr (eLI hr), .fr (.int (m : Nat)), s9, .ow (eLI gs), .no, .no, .no, .no, .no, .no, .no, s18, s19, s20, s21, .no, .no, .no] = some (.nx [S, .ow (PoolT ns p r' f'), .fr (eLI ps), .fr (eLI st), s4, .fr (eLI nb), .fr (eLI st), .fr (eLI hr), .fr (.int (m : Nat)), s9, .ow (eLI gs), .fr (.int (t : Nat)), .no, .no, .no, .no, .no, .no, s18, s19, s20, s21, .no, .no, .no]) := by
  obtain ⟨v, r1, f1, hd, v0, v1⟩ := draw_ok ns p r f 4 (by decide) (by decide +kernel)
  refine ⟨v.toNat, r1, f1, by omega, ?_⟩
  have e : ((v.toNat : Nat) : Int) = v := by omega
  rw [e]
  simp [law_p15, hd]
end
end TR

namespace TR
open PySem L2

theorem cnt_ok : ∀ m : Nat, m < 13 → ∀ t : Nat, t < 4 → ∀ g : Nat, g < m → 2 ≤ m → ((List.range m).filter fun k : Nat => !far (m : Int) (t : Int) ((k : Nat) : Int) (g : Int)).length = Wd m t := by decide +kernel
theorem opn_one (m t a b : Int) : Opn m t [a] [b] = !far m t a b := by simp [Opn]
section
variable (S : Sl) (ns : List Int) (ps st : List Int) (hp : P7 ps) (hs : Sta ps st)
include hp hs
theorem p17_ok (p r f : Int) (s4 s18 s19 s20 s9 s21 : Sl) (nb hr gs : List Int) (m t : Nat) (m2 : 2 ≤ m) (m12 : m ≤ 12) (t3 : t ≤ 3) (hg : gs.length = st.length ∧ ∀ x ∈ gs, 0 ≤ x ∧ x < m) : ∃ s13 : Sl, s13.isLn = false ∧ law_p17 [S, .ow (PoolT ns p r f), .fr (eLI ps), .fr (eLI st), s4, .fr (eLI nb), .fr (eLI st), .fr (eLI hr), .fr (.int (m : Nat)), s9, .ow (eLI gs), .fr (.int (t : Nat)), .fr (.int 1), .no, .no, .no, .no, .no, s18, s19, s20, s21, .no, .no, .no] = some (.nx [S, .ow (PoolT ns p r f), .fr (eLI ps), .fr (eLI st), s4, .fr (eLI nb), .fr (eLI st), .fr (eLI hr), .fr (.int (m : Nat)), s9, .fr (eLI gs), .fr (.int (t : Nat)), .fr (.int ((Wd m t ^ st.length : Nat) : Int)), s13, .no, .no, .no, .no, s18, s19, s20, s21, .no, .no, .no]) := by
  have hW : Wd m t ≤ 12 := by unfold Wd; omega
  have hpl := hp.1
  have hsl := hs.1
  obtain ⟨τ', h, s13, g13, rfl⟩ := loopS_inv (g := gN 13) (body := law_p17b) (fun i τ => ∃ s13 : Sl, s13.isLn = false ∧ τ = [S, .ow (PoolT ns p r f), .fr (eLI ps), .fr (eLI st), s4, .fr (eLI nb), .fr (eLI st), .fr (eLI hr), .fr (.int (m : Nat)), s9, .fr (eLI gs), .fr (.int (t : Nat)), .fr (.int ((Wd m t ^ i : Nat) : Int)), s13, .no, .no, .no, .no, s18, s19, s20, s21, .no, .no, .no]) (gs.map T.int) 0
    (fun i d τ hd hI => by
      rw [Nat.zero_add] at hI ⊢
      obtain ⟨s13, g13, rfl⟩ := hI
      have hi : i < gs.length := by
        have := (List.getElem?_eq_some_iff.mp hd).1
        simpa using this
      obtain ⟨x, hx, rfl⟩ : ∃ x, x ∈ gs ∧ d = .int x := by
        rw [List.getElem?_map, List.getElem?_eq_getElem hi] at hd
        cases hd
        exact ⟨_, List.getElem_mem hi, rfl⟩
      obtain ⟨x0, x1⟩ := hg.2 x hx
      obtain ⟨q, rfl⟩ : ∃ q : Nat, x = q := ⟨x.toNat, by omega⟩
      have hc := cnt_ok m (by omega) t (by omega) q (by omega) m2
      have e1 := mulOk_small (a := Wd m t ^ i) (b := Wd m t) (pow_small hW (by omega)) (by omega)
      have e4 : ((Wd m t ^ i : Nat) : Int) * ((Wd m t : Nat) : Int) = ((Wd m t ^ (i + 1) : Nat) : Int) := by
        rw [Nat.pow_succ, Int.natCast_mul]
      have hL : lcL (gN 24) law_p17bc1 (vrd 24) [24] (rngT 0 m) [S, .ow (PoolT ns p r f), .fr (eLI ps), .fr (eLI st), s4, .fr (eLI nb), .fr (eLI st), .fr (eLI hr), .fr (.int (m : Nat)), s9, .fr (eLI gs), .fr (.int (t : Nat)), .fr (.int ((Wd m t ^ i : Nat) : Int)), .fr (.int (q : Nat)), .no, .no, .no, .no, s18, s19, s20, s21, .no, .no, .no] = some (((List.range m).filter fun k : Nat => !far (m : Int) (t : Int) ((k : Nat) : Int) (q : Int)).map (fun k : Nat => T.int k), [S, .ow (PoolT ns p r f), .fr (eLI ps), .fr (eLI st), s4, .fr (eLI nb), .fr (eLI st), .fr (eLI hr), .fr (.int (m : Nat)), s9, .fr (eLI gs), .fr (.int (t : Nat)), .fr (.int ((Wd m t ^ i : Nat) : Int)), .fr (.int (q : Nat)), .no, .no, .no, .no, s18, s19, s20, s21, .no, .no, .no]) := by
        rw [rngT0]
        refine lcL_filE _ _ _ _ fun k _ => ?_
        have ho := law_opens_ok (m : Int) (t : Int) [(k : Int)] [(q : Int)] (by omega) rfl (by simp)
        rw [opn_one] at ho
        have sz1 : 1 ≤ sizeLine := by decide
        simp only [eLI, List.map_cons, List.map_nil] at ho
        generalize far (m : Int) (t : Int) (k : Int) (q : Int) = b at *
        cases b <;> simp [lcOne, law_p17bc1, sz1, ho]
      generalize hZ : ((List.range m).filter fun k : Nat => !far (m : Int) (t : Int) ((k : Nat) : Int) (q : Int)) = Z at *
      have q1 := rgOk_n m (by omega)
      have q2 : rgOk 0 = true := by decide +kernel
      have sz : Z.length ≤ sizeLine := by have := one_lt_line; omega
      have e5 : (m : Int).toNat = m := Int.toNat_natCast m
      rw [← hc] at e1 e4
      refine ⟨[S, .ow (PoolT ns p r f), .fr (eLI ps), .fr (eLI st), s4, .fr (eLI nb), .fr (eLI st), .fr (eLI hr), .fr (.int (m : Nat)), s9, .fr (eLI gs), .fr (.int (t : Nat)), .fr (.int ((Wd m t ^ (i + 1) : Nat) : Int)), .fr (.int (q : Nat)), .no, .no, .no, .no, s18, s19, s20, s21, .no, .no, .no], ?_, .fr (.int (q : Nat)), rfl, rfl⟩
      rw [hc] at e1 e4
      generalize ((Wd m t ^ (i + 1) : Nat) : Int) = C2 at *
      generalize ((Wd m t ^ i : Nat) : Int) = C1 at *
      rw [← hc] at e1 e4
      clear hc
      generalize ((m : Nat) : Int) = M at *
      generalize ((t : Nat) : Int) = V at *
      generalize ((q : Nat) : Int) = Q at *
      simp [law_p17b, g13, q1, q2, hL, sz, e1, e4, e5]) [S, .ow (PoolT ns p r f), .fr (eLI ps), .fr (eLI st), s4, .fr (eLI nb), .fr (eLI st), .fr (eLI hr), .fr (.int (m : Nat)), s9, .fr (eLI gs), .fr (.int (t : Nat)), .fr (.int (1)), .no, .no, .no, .no, .no, s18, s19, s20, s21, .no, .no, .no] ⟨.no, rfl, by simp⟩
  rw [List.length_map, Nat.zero_add, hg.1] at h
  refine ⟨s13, g13, ?_⟩
  generalize ((Wd m t ^ st.length : Nat) : Int) = Y at *
  simp [law_p17, h]
end
end TR

namespace TR
open PySem L2

theorem same_two (b : Bool) (x : Int) : f_law_same [.fr (.lst [.bl b, .int x]), .fr (.lst [.bl b, .int x])] = some (⟨.bl true, false⟩, [.fr (.lst [.bl b, .int x]), .fr (.lst [.bl b, .int x])]) :=
  same_ok _ ⟨by simp, fun y hy => by
    simp only [List.mem_cons, List.not_mem_nil, or_false] at hy
    rcases hy with rfl | rfl <;> trivial⟩
section
variable (S : Sl) (ns : List Int) (ps st : List Int) (hp : P7 ps) (hs : Sta ps st)
include hp hs
theorem p18_ok (p r f : Int) (s4 s18 s19 s20 s9 s21 s13 : Sl) (nb hr gs : List Int) (m t : Nat) (m2 : 2 ≤ m) (m12 : m ≤ 12) (t3 : t ≤ 3) (hg : gs.length = st.length) (hh : hr.length = gs.length) : law_p18 [S, .ow (PoolT ns p r f), .fr (eLI ps), .fr (eLI st), s4, .fr (eLI nb), .fr (eLI st), .fr (eLI hr), .fr (.int (m : Nat)), s9, .fr (eLI gs), .fr (.int (t : Nat)), .fr (.int ((Wd m t ^ st.length : Nat) : Int)), s13, .no, .no, .no, .no, s18, s19, s20, s21, .no, .no, .no] = some (.nx [S, .ow (PoolT ns p r f), .fr (eLI ps), .fr (eLI st), s4, .fr (eLI nb), .fr (eLI st), .fr (eLI hr), .fr (.int (m : Nat)), s9, .fr (eLI gs), .fr (.int (t : Nat)), .fr (.int ((Wd m t ^ st.length : Nat) : Int)), s13, .no, .no, .no, .no, s18, s19, s20, s21, .no, .no, .no]) := by
  have hpl := hp.1
  have hsl := hs.1
  have h1 := opens_ok (m : Int) (t : Int) hr gs (by omega) hh
  have h2 := law_opens_ok (m : Int) (t : Int) hr gs (by omega) hh (by omega)
  have h3 := opening_count_ok m t gs m12 t3 (by omega)
  rw [hg] at h3
  have h4 := same_two (Opn m t hr gs) ((Wd m t ^ st.length : Nat) : Int)
  generalize Opn m t hr gs = b at *
  generalize ((Wd m t ^ st.length : Nat) : Int) = Y at *
  generalize ((m : Nat) : Int) = M at *
  generalize ((t : Nat) : Int) = V at *
  have sz2 : 2 ≤ sizeLine := by decide
  simp [law_p18, h1, h2, h3, h4, sz2]
theorem p19_ok (p r f : Int) (s4 s18 s19 s20 s9 s21 s13 : Sl) (nb hr gs : List Int) (m t : Nat) (m2 : 2 ≤ m) (m12 : m ≤ 12) (t3 : t ≤ 3) : law_p19 [S, .ow (PoolT ns p r f), .fr (eLI ps), .fr (eLI st), s4, .fr (eLI nb), .fr (eLI st), .fr (eLI hr), .fr (.int (m : Nat)), s9, .fr (eLI gs), .fr (.int (t : Nat)), .fr (.int ((Wd m t ^ st.length : Nat) : Int)), s13, .no, .no, .no, .no, s18, s19, s20, s21, .no, .no, .no] = some (.nx [S, .ow (PoolT ns p r f), .fr (eLI ps), .fr (eLI st), s4, .ow (eLI (enN m t)), .fr (eLI st), .fr (eLI hr), .fr (.int (m : Nat)), s9, .fr (eLI gs), .fr (.int (t : Nat)), .fr (.int ((Wd m t ^ st.length : Nat) : Int)), s13, .no, .no, .no, .no, s18, s19, s20, s21, .no, .no, .no]) := by
  have h1 := enough_ok m t m2 m12 t3
  generalize ((Wd m t ^ st.length : Nat) : Int) = Y at *
  generalize enN m t = E at *
  generalize ((m : Nat) : Int) = M at *
  generalize ((t : Nat) : Int) = V at *
  simp [law_p19, h1]
end
end TR

namespace TR
open PySem L2

theorem different_ok (l : List Int) (hn : l.Nodup) (hz : l.length ≤ 900) : f_law_different [.fr (eLI l)] = some (⟨eLI l, true⟩, [.fr (eLI l)]) := by
  obtain ⟨τ', h, s2, g2, rfl⟩ := loopS_inv (g := gN 2) (body := law_different_p2b) (fun i τ => ∃ s2 : Sl, s2.isLn = false ∧ τ = [.fr (eLI l), .ow (eLI (l.take i)), s2]) (l.map T.int) 0
    (fun i d τ hd hI => by
      rw [Nat.zero_add] at hI ⊢
      obtain ⟨s2, g2, rfl⟩ := hI
      have hi : i < l.length := by
        have := (List.getElem?_eq_some_iff.mp hd).1
        simpa using this
      have ed : d = .int l[i] := by
        rw [List.getElem?_map, List.getElem?_eq_getElem hi] at hd
        cases hd
        rfl
      subst ed
      have ht : l.take (i + 1) = l.take i ++ [l[i]] := by rw [List.take_succ, List.getElem?_eq_getElem hi]; rfl
      have hnm : ¬ l[i] ∈ l.take i := fun q => by
        obtain ⟨j, hj, e⟩ := List.mem_iff_getElem.mp q
        rw [List.length_take] at hj
        rw [List.getElem_take] at e
        have := (List.getElem_inj hn).mp e
        omega
      have h1 := en_int.nin_no (by decide) hnm
      have hap := eLI_app (l.take i) l[i]
      rw [← ht] at hap
      have sz : (l.take i).length < sizeLine := by have := one_lt_line; rw [List.length_take]; omega
      generalize l.take (i + 1) = Y at *
      generalize l.take i = X at *
      generalize l[i] = x at *
      refine ⟨[.fr (eLI l), .ow (eLI Y), .fr (.int x)], ?_, .fr (.int x), rfl, rfl⟩
      simp [law_different_p2b, g2, h1, sz, hap]) [.fr (eLI l), .ow (eLI []), .no] ⟨.no, rfl, rfl⟩
  rw [List.length_map, Nat.zero_add, List.take_length] at h
  have sz0 : 0 ≤ sizeLine := Nat.zero_le _
  change loopS _ _ _ [.fr (eLI l), .ow (.lst []), .no] = _ at h
  unfold f_law_different
  rw [b_law_different_eq]
  simp [law_different_p, law_different_p2, h]
theorem enN_nd : ∀ m : Nat, m < 13 → ∀ t : Nat, t < 4 → (enN m t).Nodup := by decide +kernel
theorem enN_srt : ∀ m : Nat, m < 13 → ∀ t : Nat, t < 4 → isort (fun a b : Int => !decide (b < a)) (enN m t) = enN m t := by decide +kernel
theorem enN_all : ∀ m : Nat, m < 13 → ∀ t : Nat, t < 4 → ((List.range m).all fun k => (enN m t).any fun x => !far (m : Int) (t : Int) (k : Int) x) = true := by decide +kernel
theorem enN_len2 : ∀ m : Nat, m < 13 → ∀ t : Nat, t < 4 → (enN m t).length ≤ 12 := by decide +kernel
section
variable (S : Sl) (ns : List Int) (ps st : List Int) (hp : P7 ps) (hs : Sta ps st)
include hp hs
end
end TR

namespace TR
open PySem L2

section
variable (S : Sl) (ns : List Int) (ps st : List Int) (hp : P7 ps) (hs : Sta ps st)
include hp hs
theorem p20_ok (p r f : Int) (s4 s18 s19 s20 s9 s21 s12 s13 : Sl) (nb hr gs : List Int) (m t : Nat) (m2 : 2 ≤ m) (m12 : m ≤ 12) (t3 : t ≤ 3) : law_p20 [S, .ow (PoolT ns p r f), .fr (eLI ps), .fr (eLI st), s4, .ow (eLI (enN m t)), .fr (eLI st), .fr (eLI hr), .fr (.int (m : Nat)), s9, .fr (eLI gs), .fr (.int (t : Nat)), s12, s13, .no, .no, .no, .no, s18, s19, s20, s21, .no, .no, .no] = some (.nx [S, .ow (PoolT ns p r f), .fr (eLI ps), .fr (eLI st), s4, .fr (eLI (enN m t)), .fr (eLI st), .fr (eLI hr), .fr (.int (m : Nat)), s9, .fr (eLI gs), .fr (.int (t : Nat)), s12, s13, .no, .no, .no, .no, s18, s19, s20, s21, .no, .no, .no]) := by
  have hl := enN_len2 m (by omega) t (by omega)
  have h1 := different_ok (enN m t) (enN_nd m (by omega) t (by omega)) (by omega)
  have h2 := eno_int.sorted (by decide) (enN m t) (by have := one_lt_line; omega) (.inr fun x _ => rfl)
  rw [enN_srt m (by omega) t (by omega)] at h2
  have h3 := en_int.lst.neG (by decide) (enN m t) (enN m t)
  simp at h3
  have hA := enN_all m (by omega) t (by omega)
  have hx : ∀ k : Nat, lcL (gN 9) yesB law_p20e2 [9] ((enN m t).map T.int) [S, .ow (PoolT ns p r f), .fr (eLI ps), .fr (eLI st), s4, .fr (eLI (enN m t)), .fr (eLI st), .fr (eLI hr), .fr (.int (m : Nat)), .no, .fr (eLI gs), .fr (.int (t : Nat)), s12, s13, .no, .no, .no, .no, s18, s19, s20, s21, .no, .no, .fr (.int (k : Nat))] = some ((enN m t).map (fun x => T.bl (!far (m : Int) (t : Int) (k : Int) x)), [S, .ow (PoolT ns p r f), .fr (eLI ps), .fr (eLI st), s4, .fr (eLI (enN m t)), .fr (eLI st), .fr (eLI hr), .fr (.int (m : Nat)), .no, .fr (eLI gs), .fr (.int (t : Nat)), s12, s13, .no, .no, .no, .no, s18, s19, s20, s21, .no, .no, .fr (.int (k : Nat))]) := fun k =>
    lcL_mapE _ _ _ fun x _ => by
      have ho := law_opens_ok (m : Int) (t : Int) [(k : Int)] [x] (by omega) rfl (by simp)
      rw [opn_one] at ho
      have sz1 : 1 ≤ sizeLine := by decide
      simp only [eLI, List.map_cons, List.map_nil] at ho
      simp [lcOne, law_p20e2, sz1, ho]
  have hy : lcL (gN 24) yesB law_p20e1 [24] (rngT 0 m) [S, .ow (PoolT ns p r f), .fr (eLI ps), .fr (eLI st), s4, .fr (eLI (enN m t)), .fr (eLI st), .fr (eLI hr), .fr (.int (m : Nat)), s9, .fr (eLI gs), .fr (.int (t : Nat)), s12, s13, .no, .no, .no, .no, s18, s19, s20, s21, .no, .no, .no] = some ((List.range m).map (fun k : Nat => T.bl ((enN m t).any fun x => !far (m : Int) (t : Int) (k : Int) x)), [S, .ow (PoolT ns p r f), .fr (eLI ps), .fr (eLI st), s4, .fr (eLI (enN m t)), .fr (eLI st), .fr (eLI hr), .fr (.int (m : Nat)), s9, .fr (eLI gs), .fr (.int (t : Nat)), s12, s13, .no, .no, .no, .no, s18, s19, s20, s21, .no, .no, .no]) := by
    rw [rngT0]
    refine lcL_mapE _ _ _ fun k _ => ?_
    have hk := hx k
    have ha := any_lst (fun x => !far (m : Int) (t : Int) (k : Int) x) (enN m t)
    have hz : ((enN m t).map (fun x => T.bl (!far (m : Int) (t : Int) (k : Int) x))).length ≤ sizeLine := by rw [List.length_map]; have := one_lt_line; omega
    generalize (enN m t).map (fun x => T.bl (!far (m : Int) (t : Int) (k : Int) x)) = W at *
    generalize ((enN m t).any fun x => !far (m : Int) (t : Int) (k : Int) x) = b at *
    clear h1 h2 h3 hx
    simp [lcOne, law_p20e1, hk, ha, hz]
  have hall := all_lst (fun k : Nat => (enN m t).any fun x => !far (m : Int) (t : Int) (k : Int) x) (List.range m)
  rw [hA] at hall
  have hz2 : ((List.range m).map (fun k : Nat => T.bl ((enN m t).any fun x => !far (m : Int) (t : Int) (k : Int) x))).length ≤ sizeLine := by
    rw [List.length_map, List.length_range]; have := one_lt_line; omega
  generalize (List.range m).map (fun k : Nat => T.bl ((enN m t).any fun x => !far (m : Int) (t : Int) (k : Int) x)) = Z at *
  clear hx hA
  have q1 := rgOk_n m (by omega)
  have q2 : rgOk 0 = true := by decide +kernel
  have e5 : (m : Int).toNat = m := Int.toNat_natCast m
  generalize enN m t = E at *
  generalize ((m : Nat) : Int) = M at *
  generalize ((t : Nat) : Int) = V at *
  simp [law_p20, h1, h2, h3, q1, q2, e5, hy, hall, hz2]
end
end TR

namespace TR
open PySem L2

theorem cd_div : ∀ m : Nat, m < 13 → ∀ t : Nat, t < 4 → -(Int.fdiv (-(m : Int)) (2 * (t : Int) + 1)) = ((cd m t : Nat) : Int) := by decide +kernel
theorem enN_map (m t : Nat) : (enN m t).map T.int = (List.range (cd m t)).map fun k : Nat => T.int ((k : Int) * (2 * (t : Int) + 1)) := by
  unfold enN
  rw [List.map_map]
  refine List.map_congr_left fun k _ => ?_
  simp only [Function.comp]
  congr 1
section
variable (S : Sl) (ns : List Int) (ps st : List Int) (hp : P7 ps) (hs : Sta ps st)
include hp hs
theorem p21_ok (p r f : Int) (s4 s18 s19 s20 s9 s21 s12 s13 : Sl) (nb hr gs : List Int) (m t : Nat) (m2 : 2 ≤ m) (m12 : m ≤ 12) (t3 : t ≤ 3) : law_p21 [S, .ow (PoolT ns p r f), .fr (eLI ps), .fr (eLI st), s4, .fr (eLI (enN m t)), .fr (eLI st), .fr (eLI hr), .fr (.int (m : Nat)), s9, .fr (eLI gs), .fr (.int (t : Nat)), s12, s13, .no, .no, .no, .no, s18, s19, s20, s21, .no, .no, .no] = some (.nx [S, .ow (PoolT ns p r f), .fr (eLI ps), .fr (eLI st), s4, .fr (eLI (enN m t)), .fr (eLI st), .fr (eLI hr), .fr (.int (m : Nat)), s9, .fr (eLI gs), .fr (.int (t : Nat)), s12, s13, .no, .no, .no, .no, s18, s19, s20, s21, .no, .no, .no]) := by
  have hl := enN_len2 m (by omega) t (by omega)
  have hlen := enN_len (m := m) (t := t)
  have hd := cd_div m (by omega) t (by omega)
  have e2 : mulOk 2 (t : Int) = true := mulOk_small (a := 2) (by omega) (by omega)
  have hL : lcL (gN 4) yesB law_p21e1 [4] (rngT 0 (enN m t).length) [S, .ow (PoolT ns p r f), .fr (eLI ps), .fr (eLI st), .no, .fr (eLI (enN m t)), .fr (eLI st), .fr (eLI hr), .fr (.int (m : Nat)), s9, .fr (eLI gs), .fr (.int (t : Nat)), s12, s13, .no, .no, .no, .no, s18, s19, s20, s21, .no, .no, .no] = some ((enN m t).map T.int, [S, .ow (PoolT ns p r f), .fr (eLI ps), .fr (eLI st), .no, .fr (eLI (enN m t)), .fr (eLI st), .fr (eLI hr), .fr (.int (m : Nat)), s9, .fr (eLI gs), .fr (.int (t : Nat)), s12, s13, .no, .no, .no, .no, s18, s19, s20, s21, .no, .no, .no]) := by
    rw [rngT0, enN_map, hlen]
    refine lcL_mapE _ _ _ fun k hk => ?_
    have hk := List.mem_range.mp hk
    have e1 : mulOk (k : Int) (2 * (t : Int) + 1) = true := mulOk_small (a := k) (b := 2 * t + 1) (by omega) (by omega)
    generalize ((k : Nat) : Int) = K at *
    simp [lcOne, law_p21e1, e1, e2]
  have hsm := same_row (enN m t) (by omega)
  have q1 := rgOk_n (enN m t).length (by omega)
  have q2 : rgOk 0 = true := by decide +kernel
  have sz : (enN m t).length ≤ sizeLine := by have := one_lt_line; omega
  have fd : fdivOk (2 * (t : Int) + 1) = true := fdivOk_small _ (by omega) (by omega)
  have nz : ¬ 2 * (t : Int) + 1 = 0 := by omega
  rw [← hlen] at hd
  generalize enN m t = E at *
  generalize ((m : Nat) : Int) = M at *
  generalize ((t : Nat) : Int) = V at *
  simp [law_p21, hd, e2, hL, hsm, q1, q2, sz, fd, nz]
theorem p23_ok (p r f : Int) (s4 s18 s19 s20 s9 s21 s12 s13 : Sl) (nb hr gs : List Int) (m t : Nat) (m2 : 2 ≤ m) (m12 : m ≤ 12) (t3 : t ≤ 3) : ∃ s15 : Sl, s15.isLn = false ∧ law_p23 [S, .ow (PoolT ns p r f), .fr (eLI ps), .fr (eLI st), s4, .fr (eLI (enN m t)), .fr (eLI st), .fr (eLI hr), .fr (.int (m : Nat)), s9, .fr (eLI gs), .fr (.int (t : Nat)), s12, s13, .fr (.int (1)), .no, .no, .no, s18, s19, s20, s21, .no, .no, .no] = some (.nx [S, .ow (PoolT ns p r f), .fr (eLI ps), .fr (eLI st), s4, .fr (eLI (enN m t)), .fr (eLI st), .fr (eLI hr), .fr (.int (m : Nat)), s9, .fr (eLI gs), .fr (.int (t : Nat)), s12, s13, .fr (.int ((cd m t ^ st.length : Nat) : Int)), s15, .no, .no, s18, s19, s20, s21, .no, .no, .no]) := by
  have hl := enN_len2 m (by omega) t (by omega)
  have hlen := enN_len (m := m) (t := t)
  have hpl := hp.1
  have hsl := hs.1
  obtain ⟨τ', h, s15, g15, rfl⟩ := loopS_inv (g := gN 15) (body := law_p23b) (fun i τ => ∃ s15 : Sl, s15.isLn = false ∧ τ = [S, .ow (PoolT ns p r f), .fr (eLI ps), .fr (eLI st), s4, .fr (eLI (enN m t)), .fr (eLI st), .fr (eLI hr), .fr (.int (m : Nat)), s9, .fr (eLI gs), .fr (.int (t : Nat)), s12, s13, .fr (.int ((cd m t ^ i : Nat) : Int)), s15, .no, .no, s18, s19, s20, s21, .no, .no, .no]) (st.map T.int) 0
    (fun i d τ hd hI => by
      rw [Nat.zero_add] at hI ⊢
      obtain ⟨s15, g15, rfl⟩ := hI
      have hi : i < st.length := by
        have := (List.getElem?_eq_some_iff.mp hd).1
        simpa using this
      have e1 := mulOk_small (a := cd m t ^ i) (b := cd m t) (pow_small (by omega) (by omega)) (by omega)
      have e4 : ((cd m t ^ i : Nat) : Int) * ((cd m t : Nat) : Int) = ((cd m t ^ (i + 1) : Nat) : Int) := by
        rw [Nat.pow_succ, Int.natCast_mul]
      refine ⟨[S, .ow (PoolT ns p r f), .fr (eLI ps), .fr (eLI st), s4, .fr (eLI (enN m t)), .fr (eLI st), .fr (eLI hr), .fr (.int (m : Nat)), s9, .fr (eLI gs), .fr (.int (t : Nat)), s12, s13, .fr (.int ((cd m t ^ (i + 1) : Nat) : Int)), .fr d, .no, .no, s18, s19, s20, s21, .no, .no, .no], ?_, .fr d, rfl, rfl⟩
      generalize ((cd m t ^ (i + 1) : Nat) : Int) = C2 at *
      generalize ((cd m t ^ i : Nat) : Int) = C1 at *
      rw [← hlen] at e1 e4
      generalize enN m t = E at *
      simp [law_p23b, g15, e1, e4]) [S, .ow (PoolT ns p r f), .fr (eLI ps), .fr (eLI st), s4, .fr (eLI (enN m t)), .fr (eLI st), .fr (eLI hr), .fr (.int (m : Nat)), s9, .fr (eLI gs), .fr (.int (t : Nat)), s12, s13, .fr (.int (1)), .no, .no, .no, s18, s19, s20, s21, .no, .no, .no] ⟨.no, rfl, by simp⟩
  rw [List.length_map, Nat.zero_add] at h
  refine ⟨s15, g15, ?_⟩
  generalize ((cd m t ^ st.length : Nat) : Int) = Y at *
  generalize enN m t = E at *
  simp [law_p23, h]
theorem p24_ok (p r f : Int) (s4 s18 s19 s20 s9 s21 s12 s13 s15 : Sl) (nb hr gs : List Int) (m t : Nat) (m2 : 2 ≤ m) (m12 : m ≤ 12) (t3 : t ≤ 3) : law_p24 [S, .ow (PoolT ns p r f), .fr (eLI ps), .fr (eLI st), s4, .fr (eLI (enN m t)), .fr (eLI st), .fr (eLI hr), .fr (.int (m : Nat)), s9, .fr (eLI gs), .fr (.int (t : Nat)), s12, s13, .fr (.int ((cd m t ^ st.length : Nat) : Int)), s15, .no, .no, s18, s19, s20, s21, .no, .no, .no] = some (.nx [S, .ow (PoolT ns p r f), .fr (eLI ps), .fr (eLI st), s4, .fr (eLI (enN m t)), .fr (eLI st), .fr (eLI hr), .fr (.int (m : Nat)), s9, .fr (eLI gs), .fr (.int (t : Nat)), s12, s13, .fr (.int ((cd m t ^ st.length : Nat) : Int)), s15, .no, .no, s18, s19, s20, s21, .no, .no, .no]) := by
  have h := tries_ok m st.length t m2 m12 t3 (by have := hs.1; have := hp.1; omega)
  generalize ((cd m t ^ st.length : Nat) : Int) = Y at *
  generalize enN m t = E at *
  generalize ((m : Nat) : Int) = M at *
  generalize ((t : Nat) : Int) = V at *
  simp [law_p24, h]
end
end TR

namespace TR
open PySem L2

section
variable (S : Sl) (ns : List Int) (ps st : List Int) (hp : P7 ps) (hs : Sta ps st)
include hp hs
theorem p25_ok (p r f : Int) (s4 s5 s11 s14 s18 s19 s20 s9 s21 s12 s13 s15 : Sl) (nb hr gs : List Int) (m : Nat) : ∃ (gl : List Int) (r' f' : Int), Sta ps gl ∧ law_p25 [S, .ow (PoolT ns p r f), .fr (eLI ps), .fr (eLI st), s4, s5, .fr (eLI st), .fr (eLI hr), .fr (.int (m : Nat)), s9, .fr (eLI gs), s11, s12, s13, s14, s15, .no, .no, s18, s19, s20, s21, .no, .no, .no] = some (.nx [S, .ow (PoolT ns p r' f'), .fr (eLI ps), .fr (eLI st), s4, s5, .fr (eLI st), .fr (eLI hr), .fr (.int (m : Nat)), s9, .fr (eLI gs), s11, s12, s13, s14, s15, .ow (eLI gl), .no, s18, s19, s20, s21, .no, .no, .no]) := by
  obtain ⟨gl, r1, f1, hg, h⟩ := state_drawn_ok ns p r f ps hp
  exact ⟨gl, r1, f1, hg, by simp [law_p25, h]⟩
theorem p26_ok (p r f : Int) (s4 s5 s11 s14 s18 s19 s20 s9 s21 s12 s13 s15 : Sl) (nb hr gs : List Int) (m : Nat) (gl wy : List Int) (h : f_way_to [.fr (eLI ps), .fr (eLI st), .fr (eLI gl)] = some (⟨eLI wy, true⟩, [.fr (eLI ps), .fr (eLI st), .fr (eLI gl)])) : law_p26 [S, .ow (PoolT ns p r f), .fr (eLI ps), .fr (eLI st), s4, s5, .fr (eLI st), .fr (eLI hr), .fr (.int (m : Nat)), s9, .fr (eLI gs), s11, s12, s13, s14, s15, .ow (eLI gl), .no, s18, s19, s20, s21, .no, .no, .no] = some (.nx [S, .ow (PoolT ns p r f), .fr (eLI ps), .fr (eLI st), s4, s5, .fr (eLI st), .fr (eLI hr), .fr (.int (m : Nat)), s9, .fr (eLI gs), s11, s12, s13, s14, s15, .ow (eLI gl), .ow (eLI wy), s18, s19, s20, s21, .no, .no, .no]) := by
  simp [law_p26, h]
theorem p27_ok (p r f : Int) (s4 s5 s11 s14 s18 s19 s20 s9 s21 s12 s13 s15 : Sl) (nb hr gs : List Int) (m : Nat) (gl wy : List Int) (h0 : ¬ (0 : Int) ∈ wy) (hl : wy.length ≤ ps.length + 2) : law_p27 [S, .ow (PoolT ns p r f), .fr (eLI ps), .fr (eLI st), s4, s5, .fr (eLI st), .fr (eLI hr), .fr (.int (m : Nat)), s9, .fr (eLI gs), s11, s12, s13, s14, s15, .ow (eLI gl), .ow (eLI wy), s18, s19, s20, s21, .no, .no, .no] = some (.nx [S, .ow (PoolT ns p r f), .fr (eLI ps), .fr (eLI st), s4, s5, .fr (eLI st), .fr (eLI hr), .fr (.int (m : Nat)), s9, .fr (eLI gs), s11, s12, s13, s14, s15, .ow (eLI gl), .ow (eLI wy), s18, s19, s20, s21, .no, .no, .no]) := by
  have h1 := en_int.in_no (by decide) h0
  have h2 : ¬ ((st.length : Int) + 1 < (wy.length : Int)) := by have := hs.1; omega
  have h3 := clamped_ok ps st 0 hp.pl hs.1 (by have := hp.1; omega)
  rw [tnd_zero hs] at h3
  have h4 := en_int.lst.neG (by decide) st st
  simp at h4
  simp [law_p27, h1, h2, h3, h4]
theorem p28_ok (p r f : Int) (s4 s5 s11 s14 s18 s19 s20 s9 s21 s12 s13 s15 : Sl) (nb hr gs : List Int) (m : Nat) (gl wy : List Int) : law_p28 [S, .ow (PoolT ns p r f), .fr (eLI ps), .fr (eLI st), s4, s5, .fr (eLI st), .fr (eLI hr), .fr (.int (m : Nat)), s9, .fr (eLI gs), s11, s12, s13, s14, s15, .ow (eLI gl), .ow (eLI wy), s18, s19, s20, s21, .no, .no, .no] = some (.nx [S, .ow (PoolT ns p r f), .fr (eLI ps), .fr (eLI st), s4, s5, .fr (eLI st), .ow (eLI st), .fr (.int (m : Nat)), s9, .fr (eLI gs), s11, s12, s13, s14, s15, .ow (eLI gl), .ow (eLI wy), s18, s19, s20, s21, .no, .no, .no]) := by simp [law_p28]
theorem p29_ok (p r f : Int) (s4 s5 s11 s14 s18 s19 s20 s9 s21 s12 s13 s15 : Sl) (nb hr gs : List Int) (m : Nat) (gl wy : List Int) (ht : tby ps st wy = gl) (g9 : s9.isLn = false) : ∃ (s7 s9' : Sl), Hd s7 (eLI gl) ∧ law_p29 [S, .ow (PoolT ns p r f), .fr (eLI ps), .fr (eLI st), s4, s5, .fr (eLI st), .ow (eLI st), .fr (.int (m : Nat)), s9, .fr (eLI gs), s11, s12, s13, s14, s15, .ow (eLI gl), .ow (eLI wy), s18, s19, s20, s21, .no, .no, .no] = some (.nx [S, .ow (PoolT ns p r f), .fr (eLI ps), .fr (eLI st), s4, s5, .fr (eLI st), s7, .fr (.int (m : Nat)), s9', .fr (eLI gs), s11, s12, s13, s14, s15, .ow (eLI gl), .fr (eLI wy), s18, s19, s20, s21, .no, .no, .no]) := by
  obtain ⟨τ', h, hsf, s7, s9', h7, g9', rfl⟩ := loopS_rel (g := gN 9) (body := law_p29b) (fun (s : List Int) τ => Sta ps s ∧ ∃ s7 s9 : Sl, Hd s7 (eLI s) ∧ s9.isLn = false ∧ τ = [S, .ow (PoolT ns p r f), .fr (eLI ps), .fr (eLI st), s4, s5, .fr (eLI st), s7, .fr (.int (m : Nat)), s9, .fr (eLI gs), s11, s12, s13, s14, s15, .ow (eLI gl), .fr (eLI wy), s18, s19, s20, s21, .no, .no, .no]) T.int (tnd ps) wy
    (fun s τ x hx ⟨hss, s7, s9, h7, g9, e⟩ => by
      subst e
      have hc := clamped_ok ps s x hp.pl hss.1 (by have := hp.1; omega)
      have hY := sta_tnd (ps := ps) (st := s) (n := x) hp.pl
      refine ⟨[S, .ow (PoolT ns p r f), .fr (eLI ps), .fr (eLI st), s4, s5, .fr (eLI st), .ow (eLI (tnd ps s x)), .fr (.int (m : Nat)), .fr (.int x), .fr (eLI gs), s11, s12, s13, s14, s15, .ow (eLI gl), .fr (eLI wy), s18, s19, s20, s21, .no, .no, .no], ?_, hY, .ow (eLI (tnd ps s x)), .fr (.int x), .ow, rfl, rfl⟩
      generalize tnd ps s x = Y at *
      have hv := h7.v
      simp [law_p29b, g9, hv, hc]) st [S, .ow (PoolT ns p r f), .fr (eLI ps), .fr (eLI st), s4, s5, .fr (eLI st), .ow (eLI st), .fr (.int (m : Nat)), s9, .fr (eLI gs), s11, s12, s13, s14, s15, .ow (eLI gl), .fr (eLI wy), s18, s19, s20, s21, .no, .no, .no] ⟨hs, .ow (eLI st), s9, .ow, g9, rfl⟩
  change Hd s7 (eLI (tby ps st wy)) at h7
  rw [ht] at h7
  refine ⟨s7, s9', h7, ?_⟩
  simp [law_p29, h]
theorem p30_ok (p r f : Int) (s4 s5 s11 s14 s18 s19 s20 s9 s21 s12 s13 s15 : Sl) (nb hr gs : List Int) (m : Nat) (gl wy : List Int) (s7 : Sl) (h7 : Hd s7 (eLI gl)) : law_p30 [S, .ow (PoolT ns p r f), .fr (eLI ps), .fr (eLI st), s4, s5, .fr (eLI st), s7, .fr (.int (m : Nat)), s9, .fr (eLI gs), s11, s12, s13, s14, s15, .ow (eLI gl), .fr (eLI wy), s18, s19, s20, s21, .no, .no, .no] = some (.rt ⟨.bl true, false⟩ [S, .ow (PoolT ns p r f), .fr (eLI ps), .fr (eLI st), s4, s5, .fr (eLI st), s7, .fr (.int (m : Nat)), s9, .fr (eLI gs), s11, s12, s13, s14, s15, .ow (eLI gl), .fr (eLI wy), s18, s19, s20, s21, .no, .no, .no]) := by
  have h4 := en_int.lst.eqG (by decide) gl gl
  simp at h4
  have hv := h7.sl
  simp [law_p30, hv, h4]
end
end TR

namespace TR
open PySem L2
theorem tby_len {ps : List Int} (hp : Pl ps) : ∀ (ns st : List Int), Sta ps st → Sta ps (tby ps st ns)
  | [], _, h => h
  | x :: r, st, _ => tby_len hp r (tnd ps st x) (sta_tnd hp)
theorem law_true (ns : List Int) (h : ns.length ≤ 63) : ∃ τ', f_law [.fr (.frl (ns.map .int))] = some (⟨.bl true, false⟩, τ') := by
  obtain ⟨r0, e1⟩ := p1_ok ns
  generalize hS : T.frl (ns.map .int) = S at e1 ⊢
  obtain ⟨ps, r2, f2, hp, e2⟩ := p2_ok (.fr S) ns 0 r0 0
  obtain ⟨st, r3, f3, hs, e3⟩ := p3_ok (.fr S) ns 0 r2 f2 ps hp
  have e4 := p4_ok (.fr S) ps st hp hs (.ow (PoolT ns 0 r3 f3))
  obtain ⟨p5, r5, f5, s4, s18, s19, s20, g4, g18, g19, g20, e5⟩ := p5_ok (.fr S) ns ps st hp hs 0 r3 f3
  have e6 := p6_ok (.fr S) ps st hp hs (.ow (PoolT ns p5 r5 f5)) s4 s18 s19 s20
  obtain ⟨nb, r7, f7, hnb, e7⟩ := p7_ok (.fr S) ns ps st hp hs p5 r5 f5 s4 s18 s19 s20 g4
  have e8 := p8_ok (.fr S) ns ps st hp hs p5 r7 f7 s4 s18 s19 s20 nb
  have e9 := p9_ok (.fr S) ns ps st hp hs p5 r7 f7 s4 s18 s19 s20 nb
  obtain ⟨m, r10, f10, m2, m12, e10⟩ := p10_ok (.fr S) ns ps st hp hs p5 r7 f7 s4 s18 s19 s20 nb
  obtain ⟨s7, s9, s21, h7, g9, g21, e11⟩ := p11_ok (.fr S) ns ps st hp hs p5 r10 f10 s4 s18 s19 s20 nb m hnb.2
  have hH := tby_len hp.pl nb st hs
  have hHl : (tby ps st nb).length ≤ 1000 := by have := hH.1; have := hp.1; omega
  have e12 := p12_ok (.fr S) ns ps st hp hs p5 r10 f10 s4 s18 s19 s20 s7 s9 s21 nb m h7 hHl
  obtain ⟨r13, e13⟩ := p13_ok (.fr S) ns ps st hp hs p5 r10 f10 s4 s18 s19 s20 s9 s21 nb (tby ps st nb) m
  obtain ⟨gs, r14, f14, hg, e14⟩ := p14_ok (.fr S) ns ps st hp hs (p5 + 1) r13 0 s4 s18 s19 s20 s9 s21 nb (tby ps st nb) m m2 m12
  obtain ⟨t, r15, f15, t3, e15⟩ := p15_ok (.fr S) ns ps st hp hs (p5 + 1) r14 f14 s4 s18 s19 s20 s9 s21 nb (tby ps st nb) gs m
  obtain ⟨s13, g13, e17⟩ := p17_ok (.fr S) ns ps st hp hs (p5 + 1) r15 f15 s4 s18 s19 s20 s9 s21 nb (tby ps st nb) gs m t m2 m12 t3 hg
  have e18 := p18_ok (.fr S) ns ps st hp hs (p5 + 1) r15 f15 s4 s18 s19 s20 s9 s21 s13 nb (tby ps st nb) gs m t m2 m12 t3 hg.1 (by rw [hH.1, hg.1, hs.1])
  have e19 := p19_ok (.fr S) ns ps st hp hs (p5 + 1) r15 f15 s4 s18 s19 s20 s9 s21 s13 nb (tby ps st nb) gs m t m2 m12 t3
  have e20 := p20_ok (.fr S) ns ps st hp hs (p5 + 1) r15 f15 s4 s18 s19 s20 s9 s21 (.fr (.int ((Wd m t ^ st.length : Nat) : Int))) s13 nb (tby ps st nb) gs m t m2 m12 t3
  have e21 := p21_ok (.fr S) ns ps st hp hs (p5 + 1) r15 f15 s4 s18 s19 s20 s9 s21 (.fr (.int ((Wd m t ^ st.length : Nat) : Int))) s13 nb (tby ps st nb) gs m t m2 m12 t3
  obtain ⟨s15, g15, e23⟩ := p23_ok (.fr S) ns ps st hp hs (p5 + 1) r15 f15 s4 s18 s19 s20 s9 s21 (.fr (.int ((Wd m t ^ st.length : Nat) : Int))) s13 nb (tby ps st nb) gs m t m2 m12 t3
  have e24 := p24_ok (.fr S) ns ps st hp hs (p5 + 1) r15 f15 s4 s18 s19 s20 s9 s21 (.fr (.int ((Wd m t ^ st.length : Nat) : Int))) s13 s15 nb (tby ps st nb) gs m t m2 m12 t3
  obtain ⟨gl, r25, f25, hgl, e25⟩ := p25_ok (.fr S) ns ps st hp hs (p5 + 1) r15 f15 s4 (.fr (eLI (enN m t))) (.fr (.int (t : Nat))) (.fr (.int ((cd m t ^ st.length : Nat) : Int))) s18 s19 s20 s9 s21 (.fr (.int ((Wd m t ^ st.length : Nat) : Int))) s13 s15 nb (tby ps st nb) gs m
  obtain ⟨wy, w0, wl, wt, hw⟩ := way_ok ps st gl hp.pl hgl hs (by have := hp.1; omega)
  have e26 := p26_ok (.fr S) ns ps st hp hs (p5 + 1) r25 f25 s4 (.fr (eLI (enN m t))) (.fr (.int (t : Nat))) (.fr (.int ((cd m t ^ st.length : Nat) : Int))) s18 s19 s20 s9 s21 (.fr (.int ((Wd m t ^ st.length : Nat) : Int))) s13 s15 nb (tby ps st nb) gs m gl wy hw
  have e27 := p27_ok (.fr S) ns ps st hp hs (p5 + 1) r25 f25 s4 (.fr (eLI (enN m t))) (.fr (.int (t : Nat))) (.fr (.int ((cd m t ^ st.length : Nat) : Int))) s18 s19 s20 s9 s21 (.fr (.int ((Wd m t ^ st.length : Nat) : Int))) s13 s15 nb (tby ps st nb) gs m gl wy w0 wl
  have e28 := p28_ok (.fr S) ns ps st hp hs (p5 + 1) r25 f25 s4 (.fr (eLI (enN m t))) (.fr (.int (t : Nat))) (.fr (.int ((cd m t ^ st.length : Nat) : Int))) s18 s19 s20 s9 s21 (.fr (.int ((Wd m t ^ st.length : Nat) : Int))) s13 s15 nb (tby ps st nb) gs m gl wy
  obtain ⟨s7', s9', h7', e29⟩ := p29_ok (.fr S) ns ps st hp hs (p5 + 1) r25 f25 s4 (.fr (eLI (enN m t))) (.fr (.int (t : Nat))) (.fr (.int ((cd m t ^ st.length : Nat) : Int))) s18 s19 s20 s9 s21 (.fr (.int ((Wd m t ^ st.length : Nat) : Int))) s13 s15 nb (tby ps st nb) gs m gl wy wt g9
  have e30 := p30_ok (.fr S) ns ps st hp hs (p5 + 1) r25 f25 s4 (.fr (eLI (enN m t))) (.fr (.int (t : Nat))) (.fr (.int ((cd m t ^ st.length : Nat) : Int))) s18 s19 s20 s9' s21 (.fr (.int ((Wd m t ^ st.length : Nat) : Int))) s13 s15 nb (tby ps st nb) gs m gl wy s7' h7'
  have q16 : ∀ (a0 a1 a2 a3 a4 a5 a6 a7 a8 a9 a10 a11 a13 a14 a15 a16 a17 a18 a19 a20 a21 a22 a23 a24 : Sl), asgS 12 (rv (cst (.int 1))) [a0, a1, a2, a3, a4, a5, a6, a7, a8, a9, a10, a11, .no, a13, a14, a15, a16, a17, a18, a19, a20, a21, a22, a23, a24] = some (.nx [a0, a1, a2, a3, a4, a5, a6, a7, a8, a9, a10, a11, .fr (.int 1), a13, a14, a15, a16, a17, a18, a19, a20, a21, a22, a23, a24]) := by
    intros; simp
  have q22 : ∀ (a0 a1 a2 a3 a4 a5 a6 a7 a8 a9 a10 a11 a12 a13 a15 a16 a17 a18 a19 a20 a21 a22 a23 a24 : Sl), asgS 14 (rv (cst (.int 1))) [a0, a1, a2, a3, a4, a5, a6, a7, a8, a9, a10, a11, a12, a13, .no, a15, a16, a17, a18, a19, a20, a21, a22, a23, a24] = some (.nx [a0, a1, a2, a3, a4, a5, a6, a7, a8, a9, a10, a11, a12, a13, .fr (.int 1), a15, a16, a17, a18, a19, a20, a21, a22, a23, a24]) := by
    intros; simp
  obtain ⟨τ, hbl⟩ : ∃ τ, b_law ([.fr S] ++ List.replicate 24 .no) = some (.rt ⟨.bl true, false⟩ τ) := by
    rw [b_law_eq]
    exact ⟨_, sq_nx e1 (sq_nx e2 (sq_nx e3 (sq_nx e4 (sq_nx e5 (sq_nx e6 (sq_nx e7 (sq_nx e8 (sq_nx e9 (sq_nx e10 (sq_nx e11 (sq_nx e12 (sq_nx e13 (sq_nx e14 (sq_nx e15 (sq_nx (q16 ..) (sq_nx e17 (sq_nx e18 (sq_nx e19 (sq_nx e20 (sq_nx e21 (sq_nx (q22 ..) (sq_nx e23 (sq_nx e24 (sq_nx e25 (sq_nx e26 (sq_nx e27 (sq_nx e28 (sq_nx e29 e30))))))))))))))))))))))))))))⟩
  refine ⟨back [.fr S] τ, ?_⟩
  show ((b_law ([.fr S] ++ List.replicate 24 .no)).bind _) = _
  rw [hbl]
  rfl
end TR

namespace TR
open PySem L2
def d_is_state : He.DefD := ⟨("is_state", none), "is_state", "is_state", defArgs s_is_state, defBody s_is_state, defScope s_is_state, [], []⟩
def d_turned : He.DefD := ⟨("turned", none), "turned", "turned", defArgs s_turned, defBody s_turned, defScope s_turned, [], []⟩
def d_turned_by : He.DefD := ⟨("turned_by", none), "turned_by", "turned_by", defArgs s_turned_by, defBody s_turned_by, defScope s_turned_by, [], []⟩
def d_opens : He.DefD := ⟨("opens", none), "opens", "opens", defArgs s_opens, defBody s_opens, defScope s_opens, [], []⟩
def d_opening_count : He.DefD := ⟨("opening_count", none), "opening_count", "opening_count", defArgs s_opening_count, defBody s_opening_count, defScope s_opening_count, [], []⟩
def d_way_to : He.DefD := ⟨("way_to", none), "way_to", "way_to", defArgs s_way_to, defBody s_way_to, defScope s_way_to, [], []⟩
def d_enough_numbers : He.DefD := ⟨("enough_numbers", none), "enough_numbers", "enough_numbers", defArgs s_enough_numbers, defBody s_enough_numbers, defScope s_enough_numbers, [], []⟩
def d_tries : He.DefD := ⟨("tries", none), "tries", "tries", defArgs s_tries, defBody s_tries, defScope s_tries, [], []⟩
def d_law_mixed : He.DefD := ⟨("_law_mixed", none), "_law_mixed", "_law_mixed", defArgs s_law_mixed, defBody s_law_mixed, defScope s_law_mixed, [], []⟩
def d_law_rest : He.DefD := ⟨("_law_rest", none), "_law_rest", "_law_rest", defArgs s_law_rest, defBody s_law_rest, defScope s_law_rest, [], []⟩
def d_law_pool : He.DefD := ⟨("_law_pool", none), "_law_pool", "_law_pool", defArgs s_law_pool, defBody s_law_pool, defScope s_law_pool, [], []⟩
def d_law_next : He.DefD := ⟨("_law_next", none), "_law_next", "_law_next", defArgs s_law_next, defBody s_law_next, defScope s_law_next, [], []⟩
def d_law_draw : He.DefD := ⟨("_law_draw", none), "_law_draw", "_law_draw", defArgs s_law_draw, defBody s_law_draw, defScope s_law_draw, [], []⟩
def d_law_same : He.DefD := ⟨("_law_same", none), "_law_same", "_law_same", defArgs s_law_same, defBody s_law_same, defScope s_law_same, [], []⟩
def d_law_different : He.DefD := ⟨("_law_different", none), "_law_different", "_law_different", defArgs s_law_different, defBody s_law_different, defScope s_law_different, [], []⟩
def d_law_clamped : He.DefD := ⟨("_law_clamped", none), "_law_clamped", "_law_clamped", defArgs s_law_clamped, defBody s_law_clamped, defScope s_law_clamped, [], []⟩
def d_law_state_drawn : He.DefD := ⟨("_law_state_drawn", none), "_law_state_drawn", "_law_state_drawn", defArgs s_law_state_drawn, defBody s_law_state_drawn, defScope s_law_state_drawn, [], []⟩
def d_law_opens : He.DefD := ⟨("_law_opens", none), "_law_opens", "_law_opens", defArgs s_law_opens, defBody s_law_opens, defScope s_law_opens, [], []⟩
def d_law_stepped : He.DefD := ⟨("_law_stepped", none), "_law_stepped", "_law_stepped", defArgs s_law_stepped, defBody s_law_stepped, defScope s_law_stepped, [], []⟩
def d_law : He.DefD := ⟨("law", none), "law", "law", defArgs s_law, defBody s_law, defScope s_law, [], []⟩
def fn : List He.DefD := [d_is_state, d_turned, d_turned_by, d_opens, d_opening_count, d_way_to, d_enough_numbers, d_tries, d_law_mixed, d_law_rest, d_law_pool, d_law_next, d_law_draw, d_law_same, d_law_different, d_law_clamped, d_law_state_drawn, d_law_opens, d_law_stepped, d_law]
def fa : List He.Fa := ([.glo "is_state", .glo "turned", .glo "turned_by", .glo "opens", .glo "opening_count", .glo "way_to", .glo "enough_numbers", .glo "tries", .glo "_law_mixed", .glo "_law_rest", .glo "_law_pool", .glo "_law_next", .glo "_law_draw", .glo "_law_same", .glo "_law_different", .glo "_law_clamped", .glo "_law_state_drawn", .glo "_law_opens", .glo "_law_stepped", .glo "law", .free "all", .free "any", .free "bool", .free "dict", .free "enumerate", .free "int", .free "isinstance", .free "len", .free "list", .free "max"] : List He.Fa) ++ ([.free "min", .free "range", .free "sorted", .free "str", .free "sum", .free "tuple", .free "zip"] : List He.Fa)
def loose : List Str := ["is_state", "turned", "turned_by", "opens", "opening_count", "way_to", "enough_numbers", "tries", "_law_mixed", "_law_rest", "_law_pool", "_law_next", "_law_draw", "_law_same", "_law_different", "_law_clamped", "_law_state_drawn", "_law_opens", "_law_stepped"]
abbrev RR : PySem.W.OpenRow := PySem.W.OpenLaw.row PySem.Challenge.rw_lockwork_k67_whole_wheels_that_turn_one
abbrev hk : PySem.W.Hook := He.hookD 4 fa fn
def ob (s : PySem.W.SharedT) : He.AlD := He.obsDG 4 fa fn (HandSHeadRun.getT s)
theorem ob_eq (s : PySem.W.SharedT) : ob s = hk.obs s.abs := He.obsDG_eq (HandSHeadRun.getT_eq s)
theorem run (w : World) : HandSHeadRun.RunEq RR (PySem.W.view RR.prog [21]) hk ob 6000 loose w := by
  intro os
  kernel_rfl
theorem facts {P : Program} {w : World} {K : PySem.W.Frag} {h : Heap} {mg : Str → Option Value} {f : Addr} (X : K.In h) (G : h.Ns mainGlobals mg) (hfa : mg ("law" : Str) = some (.ref f)) (c : He.SaysD fa fn K) :
    ∃ fd : FuncData, (∀ (s : Shared) (v : Value), BindsTo s fd ⟨[v], []⟩ [("script", v)]) ∧ ∀ base : Heap, K.In base → base.Ns mainGlobals mg → FnOk P w K mg base CX0 7 f fd ["script"] (spT K 1 f_law) := by
  obtain ⟨fd0, F0⟩ := c.def_ 0 (d := d_is_state) rfl
  obtain ⟨fd1, F1⟩ := c.def_ 1 (d := d_turned) rfl
  obtain ⟨fd2, F2⟩ := c.def_ 2 (d := d_turned_by) rfl
  obtain ⟨fd3, F3⟩ := c.def_ 3 (d := d_opens) rfl
  obtain ⟨fd4, F4⟩ := c.def_ 4 (d := d_opening_count) rfl
  obtain ⟨fd5, F5⟩ := c.def_ 5 (d := d_way_to) rfl
  obtain ⟨fd6, F6⟩ := c.def_ 6 (d := d_enough_numbers) rfl
  obtain ⟨fd7, F7⟩ := c.def_ 7 (d := d_tries) rfl
  obtain ⟨fd8, F8⟩ := c.def_ 8 (d := d_law_mixed) rfl
  obtain ⟨fd9, F9⟩ := c.def_ 9 (d := d_law_rest) rfl
  obtain ⟨fd10, F10⟩ := c.def_ 10 (d := d_law_pool) rfl
  obtain ⟨fd11, F11⟩ := c.def_ 11 (d := d_law_next) rfl
  obtain ⟨fd12, F12⟩ := c.def_ 12 (d := d_law_draw) rfl
  obtain ⟨fd13, F13⟩ := c.def_ 13 (d := d_law_same) rfl
  obtain ⟨fd14, F14⟩ := c.def_ 14 (d := d_law_different) rfl
  obtain ⟨fd15, F15⟩ := c.def_ 15 (d := d_law_clamped) rfl
  obtain ⟨fd16, F16⟩ := c.def_ 16 (d := d_law_state_drawn) rfl
  obtain ⟨fd17, F17⟩ := c.def_ 17 (d := d_law_opens) rfl
  obtain ⟨fd18, F18⟩ := c.def_ 18 (d := d_law_stepped) rfl
  obtain ⟨fd19, F19⟩ := c.def_ 19 (d := d_law) rfl
  have m0 := He.glo_ok X G (c.fact 0 (f := .glo "is_state") rfl)
  have m1 := He.glo_ok X G (c.fact 1 (f := .glo "turned") rfl)
  have m2 := He.glo_ok X G (c.fact 2 (f := .glo "turned_by") rfl)
  have m3 := He.glo_ok X G (c.fact 3 (f := .glo "opens") rfl)
  have m4 := He.glo_ok X G (c.fact 4 (f := .glo "opening_count") rfl)
  have m5 := He.glo_ok X G (c.fact 5 (f := .glo "way_to") rfl)
  have m6 := He.glo_ok X G (c.fact 6 (f := .glo "enough_numbers") rfl)
  have m7 := He.glo_ok X G (c.fact 7 (f := .glo "tries") rfl)
  have m8 := He.glo_ok X G (c.fact 8 (f := .glo "_law_mixed") rfl)
  have m9 := He.glo_ok X G (c.fact 9 (f := .glo "_law_rest") rfl)
  have m10 := He.glo_ok X G (c.fact 10 (f := .glo "_law_pool") rfl)
  have m11 := He.glo_ok X G (c.fact 11 (f := .glo "_law_next") rfl)
  have m12 := He.glo_ok X G (c.fact 12 (f := .glo "_law_draw") rfl)
  have m13 := He.glo_ok X G (c.fact 13 (f := .glo "_law_same") rfl)
  have m14 := He.glo_ok X G (c.fact 14 (f := .glo "_law_different") rfl)
  have m15 := He.glo_ok X G (c.fact 15 (f := .glo "_law_clamped") rfl)
  have m16 := He.glo_ok X G (c.fact 16 (f := .glo "_law_state_drawn") rfl)
  have m17 := He.glo_ok X G (c.fact 17 (f := .glo "_law_opens") rfl)
  have m18 := He.glo_ok X G (c.fact 18 (f := .glo "_law_stepped") rfl)
  have m19 := He.glo_ok X G (c.fact 19 (f := .glo "law") rfl)
  have B : Bl mg := ⟨He.free_ok X G (c.fact 20 (f := .free "all") rfl), He.free_ok X G (c.fact 21 (f := .free "any") rfl), He.free_ok X G (c.fact 22 (f := .free "bool") rfl), He.free_ok X G (c.fact 23 (f := .free "dict") rfl), He.free_ok X G (c.fact 24 (f := .free "enumerate") rfl), He.free_ok X G (c.fact 25 (f := .free "int") rfl), He.free_ok X G (c.fact 26 (f := .free "isinstance") rfl), He.free_ok X G (c.fact 27 (f := .free "len") rfl), He.free_ok X G (c.fact 28 (f := .free "list") rfl), He.free_ok X G (c.fact 29 (f := .free "max") rfl), He.free_ok X G (c.fact 30 (f := .free "min") rfl), He.free_ok X G (c.fact 31 (f := .free "range") rfl), He.free_ok X G (c.fact 32 (f := .free "sorted") rfl), He.free_ok X G (c.fact 33 (f := .free "str") rfl), He.free_ok X G (c.fact 34 (f := .free "sum") rfl), He.free_ok X G (c.fact 35 (f := .free "tuple") rfl), He.free_ok X G (c.fact 36 (f := .free "zip") rfl)⟩
  have e := hfa.symm.trans m19
  cases e
  have b := FunD.bindsA (ps := ["script"]) F19 fun _ _ _ _ _ _ us hl => match us, hl with | [_], _ => rfl
  refine ⟨fd19, fun s v => b s [v] rfl, fun base _ _ => ?_⟩
  have H_is_state := ok_is_state (P := P) (w := w) (base := base) F0 m0 B 
  have H_turned := ok_turned (P := P) (w := w) (base := base) F1 m1 B 
  have H_turned_by := ok_turned_by (P := P) (w := w) (base := base) F2 m2 B H_turned
  have H_opens := ok_opens (P := P) (w := w) (base := base) F3 m3 B 
  have H_opening_count := ok_opening_count (P := P) (w := w) (base := base) F4 m4 B 
  have H_way_to := ok_way_to (P := P) (w := w) (base := base) F5 m5 B H_turned
  have H_enough_numbers := ok_enough_numbers (P := P) (w := w) (base := base) F6 m6 B 
  have H_tries := ok_tries (P := P) (w := w) (base := base) F7 m7 B H_enough_numbers
  have H_law_mixed := ok_law_mixed (P := P) (w := w) (base := base) F8 m8 B 
  have H_law_rest := ok_law_rest (P := P) (w := w) (base := base) F9 m9 B H_law_mixed
  have H_law_pool := ok_law_pool (P := P) (w := w) (base := base) F10 m10 B H_law_rest
  have H_law_next := ok_law_next (P := P) (w := w) (base := base) F11 m11 B H_law_rest
  have H_law_draw := ok_law_draw (P := P) (w := w) (base := base) F12 m12 B H_law_rest
  have H_law_same := ok_law_same (P := P) (w := w) (base := base) F13 m13 B 
  have H_law_different := ok_law_different (P := P) (w := w) (base := base) F14 m14 B 
  have H_law_clamped := ok_law_clamped (P := P) (w := w) (base := base) F15 m15 B 
  have H_law_state_drawn := ok_law_state_drawn (P := P) (w := w) (base := base) F16 m16 B H_law_draw
  have H_law_opens := ok_law_opens (P := P) (w := w) (base := base) F17 m17 B 
  have H_law_stepped := ok_law_stepped (P := P) (w := w) (base := base) F18 m18 B 
  exact ok_law F19 B H_is_state H_turned H_turned_by H_opens H_opening_count H_way_to H_enough_numbers H_tries H_law_pool H_law_next H_law_draw H_law_same H_law_different H_law_clamped H_law_state_drawn H_law_opens H_law_stepped
end TR
open PySem PySem.W PySem.Calls PyProof.Rows
theorem PySem.Challenge.cw_lockwork_k67_whole_wheels_that_turn_one_holds : PySem.Challenge.rw_lockwork_k67_whole_wheels_that_turn_one.Holds := by
  w_on; o_law
  refine HandSHeadRun.head_any (r := OpenLaw.row PySem.Challenge.rw_lockwork_k67_whole_wheels_that_turn_one) (q := view (OpenLaw.row PySem.Challenge.rw_lockwork_k67_whole_wheels_that_turn_one).prog [21]) (H := TR.hk) (ob := TR.ob) (M := 6000) (loose := TR.loose) (d := HandSHeadRun.topDef (OpenLaw.row PySem.Challenge.rw_lockwork_k67_whole_wheels_that_turn_one).prog 21) (kwd := []) TR.ob_eq
    (by kernel_rfl) (fun s => by kernel_rfl) TR.run (by kernel_rfl) (by kernel_rfl) (by kernel_rfl) (by rfl) (by first | assumption | decide +kernel) (by decide +kernel) ⟨rfl, rfl, rfl, rfl, rfl, by decide +kernel⟩ ?hw ?hc
  case hw => w_witness2
  case hc =>
    refine L2.walk_ofE (l := PySem.Challenge.rw_lockwork_k67_whole_wheels_that_turn_one) (n := 63) (k := 7) (x := "script") (CX := L2.CX0) rfl (by decide) (by kernel_rfl) ⟨rfl, by decide, by decide⟩ ?F (fun _ _ _ _ z => z)
    intro w mg fa h Y G hmg0
    obtain ⟨K, KX, c⟩ := Y
    have hmg : mg ("law" : PySem.Str) = some (.ref fa) := by
      have e : (HandSHeadRun.topDef (OpenLaw.row PySem.Challenge.rw_lockwork_k67_whole_wheels_that_turn_one).prog 21).name = ("law" : PySem.Str) := by kernel_rfl
      rw [← e]
      exact hmg0
    obtain ⟨fd, hb, hF⟩ := TR.facts (P := (PySem.Challenge.rw_lockwork_k67_whole_wheels_that_turn_one).prog) (w := w) KX G hmg c
    refine ⟨K, fd, TR.spT K 1 TR.f_law, KX, hb, fun H a ns hl _ hS => ?_, hF⟩
    obtain ⟨τ', e⟩ := TR.law_true ns hl
    exact TR.law_spec hS e

