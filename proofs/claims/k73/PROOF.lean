import PyProof.Rows.All
import Wide.All
import OpenK.AllK
import Wide.FinOn
import HandS.ForMost
import HandS.Wide
import HandS.TupAny
import HandS.Deep
import HandS.Style
import HandS.IsInst
import PyProof.IsRules
import HandS.Flow
import HandS.Defaults
import HandS.TupLen
import HandS.SortInts
import KE.SortData
import HandS.Conv
import HandS.More
import HandS.Gcd
import HandS.DictComp
import HandS.Iter
import KE.KStateDown
import HandS.Words
import HandS.WordsExc
import HandS.Head0
import HandS.Head1
import HandS.Head2
import HandS.Head3
import HandS.HeadEnd
import HandS.HeadHook1
import HandS.HeadHook2
import KE.GoesEnum
import KE.KTupSum
import KE.DataMinMax
import KE.KRevSl
import PySem.Challenge.RW_lockwork_k73_whole_rows_that_mend_seven
set_option Elab.async false
set_option linter.all false
set_option maxRecDepth 100000
set_option maxHeartbeats 0
/-! Tree semantics over HandS: Python data as trees, a body as a function over slots. -/
namespace TR
open PySem L2

/-- Python data as a tree -/
inductive T where
  | non | bl (b : Bool) | int (i : Int) | str (x : Str)
  | tup (xs : List T) | lst (xs : List T) | frl (xs : List T) | dic (kvs : List (T × T)) | dit (kvs : List (T × T))

def keyT : Key → T
  | .inl i => .int i
  | .inr x => .str x
def keysT (ks : List Key) : T := .tup (ks.map keyT)

mutual
/-- v is the tree d, all of it laid in H -/
inductive Rp (K : PySem.W.Frag) (H : Hp) : V → T → Prop
  | non : Rp K H .non .non
  | bl (b : Bool) : Rp K H (.bl b) (.bl b)
  | int (i : Int) : Rp K H (.int i) (.int i)
  | str (x : Str) : Rp K H (.str x) (.str x)
  | lst {a : Addr} {xs : List V} {ds : List T} : H a = some (.lst xs) → RpA K H xs ds → Rp K H (.ref a) (.lst ds)
  | tup {a : Addr} {xs : List V} {ds : List T} : H a = some (.tup xs) → RpA K H xs ds → Rp K H (.ref a) (.tup ds)
  | frl {a : Addr} {xs : List V} {ds : List T} : SqL K H a xs → RpA K H xs ds → Rp K H (.ref a) (.frl ds)
  | dic {a : Addr} {kvs : List (Key × V)} {ds : List (T × T)} : Rd H a (.dK kvs) → RpK K H kvs ds → Rp K H (.ref a) (.dic ds)
  | dit {a : Addr} {kvs : List (List Key × V)} {ds : List (T × T)} : H a = some (.dT kvs) → RpT K H kvs ds → Rp K H (.ref a) (.dit ds)
inductive RpA (K : PySem.W.Frag) (H : Hp) : List V → List T → Prop
  | nil : RpA K H [] []
  | cons {v : V} {vs : List V} {d : T} {ds : List T} : Rp K H v d → RpA K H vs ds → RpA K H (v :: vs) (d :: ds)
inductive RpK (K : PySem.W.Frag) (H : Hp) : List (Key × V) → List (T × T) → Prop
  | nil : RpK K H [] []
  | cons {k : Key} {v : V} {vs : List (Key × V)} {d : T} {ds : List (T × T)} : Rp K H v d → RpK K H vs ds → RpK K H ((k, v) :: vs) ((keyT k, d) :: ds)
inductive RpT (K : PySem.W.Frag) (H : Hp) : List (List Key × V) → List (T × T) → Prop
  | nil : RpT K H [] []
  | cons {k : List Key} {v : V} {vs : List (List Key × V)} {d : T} {ds : List (T × T)} : Rp K H v d → RpT K H vs ds → RpT K H ((k, v) :: vs) ((keysT k, d) :: ds)
end

theorem Same.sqT {K : PySem.W.Frag} {H H' : Hp} {a : Addr} {xs : List V} (e : Same H H') (h : SqT K H a xs) : SqT K H' a xs := by
  rcases h with (h | ⟨o, h⟩) | h
  · exact .inl (.inl (e _ _ h))
  · exact .inl (.inr ⟨o, e _ _ h⟩)
  · exact .inr h
theorem Same.rd {H H' : Hp} {a : Addr} {u : HO} (e : Same H H') (h : Rd H a u) : Rd H' a u := by
  rcases h with h | ⟨o, h⟩
  · exact .inl (e _ _ h)
  · exact .inr ⟨o, e _ _ h⟩

section
variable {K : PySem.W.Frag} {H H' : Hp}
mutual
theorem Rp.mono (e : Same H H') : ∀ {v : V} {d : T}, Rp K H v d → Rp K H' v d
  | _, _, .non => .non
  | _, _, .bl b => .bl b
  | _, _, .int i => .int i
  | _, _, .str x => .str x
  | _, _, .lst h a => .lst (e _ _ h) (RpA.mono e a)
  | _, _, .tup h a => .tup (e _ _ h) (RpA.mono e a)
  | _, _, .frl h a => .frl (L2.Same.seq e h) (RpA.mono e a)
  | _, _, .dic h a => .dic (Same.rd e h) (RpK.mono e a)
  | _, _, .dit h a => .dit (e _ _ h) (RpT.mono e a)
theorem RpA.mono (e : Same H H') : ∀ {v : List V} {d : List T}, RpA K H v d → RpA K H' v d
  | _, _, .nil => .nil
  | _, _, .cons a b => .cons (Rp.mono e a) (RpA.mono e b)
theorem RpK.mono (e : Same H H') : ∀ {v : List (Key × V)} {d : List (T × T)}, RpK K H v d → RpK K H' v d
  | _, _, .nil => .nil
  | _, _, .cons a b => .cons (Rp.mono e a) (RpK.mono e b)
theorem RpT.mono (e : Same H H') : ∀ {v : List (List Key × V)} {d : List (T × T)}, RpT K H v d → RpT K H' v d
  | _, _, .nil => .nil
  | _, _, .cons a b => .cons (Rp.mono e a) (RpT.mono e b)
end
end

section
variable {K : PySem.W.Frag} {H : Hp}
theorem RpA.length : ∀ {vs : List V} {ds : List T}, RpA K H vs ds → vs.length = ds.length
  | _, _, .nil => rfl
  | _, _, .cons _ b => congrArg Nat.succ (RpA.length b)
theorem RpA.get : ∀ {vs : List V} {ds : List T} {i : Nat} {d : T}, RpA K H vs ds → ds[i]? = some d → ∃ v, vs[i]? = some v ∧ Rp K H v d
  | _, _, _, _, .nil, e => by simp at e
  | _, _, 0, _, .cons a _, e => by simp at e; subst e; exact ⟨_, rfl, a⟩
  | _, _, i + 1, d, .cons _ b, e => by
    obtain ⟨v, h1, h2⟩ := RpA.get (i := i) (d := d) b (by simpa using e)
    exact ⟨v, by simpa using h1, h2⟩
theorem RpA.getV : ∀ {vs : List V} {ds : List T} {i : Nat} {v : V}, RpA K H vs ds → vs[i]? = some v → ∃ d, ds[i]? = some d ∧ Rp K H v d
  | _, _, _, _, .nil, e => by simp at e
  | _, _, 0, _, .cons a _, e => by simp at e; subst e; exact ⟨_, rfl, a⟩
  | _, _, i + 1, d, .cons _ b, e => by
    obtain ⟨v, h1, h2⟩ := RpA.getV (i := i) (v := d) b (by simpa using e)
    exact ⟨v, by simpa using h1, h2⟩
theorem RpA.append : ∀ {vs ws : List V} {ds es : List T}, RpA K H vs ds → RpA K H ws es → RpA K H (vs ++ ws) (ds ++ es)
  | _, _, _, _, .nil, s => s
  | _, _, _, _, .cons a b, s => .cons a (RpA.append b s)
theorem RpA.set {v : V} {d : T} (r : Rp K H v d) : ∀ {vs : List V} {ds : List T} (i : Nat), RpA K H vs ds → RpA K H (vs.set i v) (ds.set i d)
  | _, _, _, .nil => .nil
  | _, _, 0, .cons _ b => .cons r b
  | _, _, i + 1, .cons a b => .cons a (RpA.set r i b)
theorem RpA.take : ∀ {vs : List V} {ds : List T} (n : Nat), RpA K H vs ds → RpA K H (vs.take n) (ds.take n)
  | _, _, 0, _ => .nil
  | _, _, _ + 1, .nil => .nil
  | _, _, n + 1, .cons a b => .cons a (RpA.take n b)
theorem RpA.drop : ∀ {vs : List V} {ds : List T} (n : Nat), RpA K H vs ds → RpA K H (vs.drop n) (ds.drop n)
  | _, _, 0, h => h
  | _, _, _ + 1, .nil => .nil
  | _, _, n + 1, .cons _ b => RpA.drop n b
theorem RpA.one {v : V} {d : T} (h : Rp K H v d) : RpA K H [v] [d] := .cons h .nil
theorem RpA.reverse : ∀ {vs : List V} {ds : List T}, RpA K H vs ds → RpA K H vs.reverse ds.reverse
  | _, _, .nil => .nil
  | _, _, .cons a b => by
    rw [List.reverse_cons, List.reverse_cons]
    exact (RpA.reverse b).append (.one a)
theorem RpA.of_map_int : ∀ (ns : List Int), RpA K H (ns.map V.int) (ns.map T.int)
  | [] => .nil
  | n :: r => .cons (.int n) (RpA.of_map_int r)
end

/-- what an owned root holds: its items are laid in the frozen part -/
def Own (K : PySem.W.Frag) (F H : Hp) (p : Addr) : T → Prop
  | .lst ds => ∃ vs, H p = some (.lst vs) ∧ RpA K F vs ds
  | .dic ds => ∃ kvs, H p = some (.dK kvs) ∧ RpK K F kvs ds
  | .dit ds => ∃ kvs, H p = some (.dT kvs) ∧ RpT K F kvs ds
  | _ => False
theorem Own.there {K : PySem.W.Frag} {F H : Hp} {p : Addr} : ∀ {d : T}, Own K F H p d → ∃ o, H p = some o
  | .lst _, ⟨_, h, _⟩ => ⟨_, h⟩
  | .dic _, ⟨_, h, _⟩ => ⟨_, h⟩
  | .dit _, ⟨_, h, _⟩ => ⟨_, h⟩
theorem Own.mono {K : PySem.W.Frag} {F F' H H' : Hp} {p : Addr} (e : Same F F') (h : H' p = H p) : ∀ {d : T}, Own K F H p d → Own K F' H' p d
  | .lst _, ⟨vs, a, b⟩ => ⟨vs, h.trans a, b.mono e⟩
  | .dic _, ⟨vs, a, b⟩ => ⟨vs, h.trans a, b.mono e⟩
  | .dit _, ⟨vs, a, b⟩ => ⟨vs, h.trans a, b.mono e⟩
/-- the root laid down for good -/
theorem Own.rp {K : PySem.W.Frag} {F H F' : Hp} {p : Addr} {o : HO} (e : Same F F') (h : H p = some o) (hF : F' p = some o) : ∀ {d : T}, Own K F H p d → Rp K F' (.ref p) d
  | .lst _, ⟨vs, a, b⟩ => by
    rw [h] at a
    cases a
    exact .lst hF (b.mono e)
  | .dic _, ⟨vs, a, b⟩ => by
    rw [h] at a
    cases a
    exact .dic (.inl hF) (b.mono e)
  | .dit _, ⟨vs, a, b⟩ => by
    rw [h] at a
    cases a
    exact .dit hF (b.mono e)

/-- a slot: unknown; a tree laid down; an own root; a lent root -/
inductive Sl where
  | no | fr (d : T) | ow (d : T) | ln (d : T)
abbrev Sls := List Sl

def SlOk (K : PySem.W.Frag) (F H : Hp) : Sl → Option V → Prop
  | .no, _ => True
  | .fr d, x => ∃ v, x = some v ∧ Rp K F v d
  | .ow d, x => ∃ p, x = some (.ref p) ∧ F p = none ∧ Own K F H p d
  | .ln d, x => ∃ p, x = some (.ref p) ∧ F p = none ∧ Own K F H p d
def Sl.isRoot : Sl → Bool
  | .ow _ => true
  | .ln _ => true
  | _ => false
/-- the i-th slot is the root at p -/
def RootAt (τ : Sls) (σ : St) (i : Nat) (p : Addr) : Prop := ∃ s, τ[i]? = some s ∧ s.isRoot = true ∧ σ[i]? = some (some (.ref p))
def IsRoot (τ : Sls) (σ : St) (p : Addr) : Prop := ∃ i, RootAt τ σ i p

structure Ok (K : PySem.W.Frag) (F : Hp) (τ : Sls) (σ : St) (H : Hp) : Prop where
  sub : Same F H
  len : τ.length = σ.length
  sl : ∀ (i : Nat) (s : Sl) (x : Option V), τ[i]? = some s → σ[i]? = some x → SlOk K F H s x
  ne : ∀ i j p, RootAt τ σ i p → RootAt τ σ j p → i = j

structure Stp (τ : Sls) (σ : St) (H F : Hp) (τ' : Sls) (σ' : St) (H' F' : Hp) : Prop where
  keep : ∀ b o, H b = some o → ¬ IsRoot τ σ b → H' b = some o
  dom : ∀ b o, H b = some o → ∃ o', H' b = some o'
  fr : Same F F'
  new : ∀ b o, F' b = some o → F b = some o ∨ H b = none ∨ IsRoot τ σ b
  rt : ∀ p, IsRoot τ' σ' p → IsRoot τ σ p ∨ H p = none
  ln : ∀ (i : Nat) (d : T), τ[i]? = some (Sl.ln d) → (∃ d' : T, τ'[i]? = some (Sl.ln d')) ∧ σ'[i]? = σ[i]?

section
variable {K : PySem.W.Frag} {τ τ1 τ2 : Sls} {σ σ1 σ2 : St} {H H1 H2 F F1 F2 : Hp}
theorem Ok.root (k : Ok K F τ σ H) {i : Nat} {p : Addr} (r : RootAt τ σ i p) : F p = none ∧ ∃ d, Own K F H p d := by
  obtain ⟨s, h1, h2, h3⟩ := r
  have q := k.sl i s _ h1 h3
  cases s with
  | no => cases h2
  | fr d => cases h2
  | ow d =>
    obtain ⟨p', e, a, b⟩ := q
    cases e
    exact ⟨a, d, b⟩
  | ln d =>
    obtain ⟨p', e, a, b⟩ := q
    cases e
    exact ⟨a, d, b⟩
theorem Ok.rootF (k : Ok K F τ σ H) {p : Addr} (r : IsRoot τ σ p) : F p = none := let ⟨_, r⟩ := r; (k.root r).1
theorem Ok.rootH (k : Ok K F τ σ H) {p : Addr} (r : IsRoot τ σ p) : ∃ o, H p = some o := let ⟨_, r⟩ := r; let ⟨_, _, o⟩ := k.root r; o.there
theorem Stp.refl : Stp τ σ H F τ σ H F := ⟨fun _ _ h _ => h, fun _ o h => ⟨o, h⟩, fun _ _ h => h, fun _ _ h => .inl h, fun _ h => .inl h, fun _ d h => ⟨⟨d, h⟩, rfl⟩⟩
theorem Stp.trans (a : Stp τ σ H F τ1 σ1 H1 F1) (b : Stp τ1 σ1 H1 F1 τ2 σ2 H2 F2) : Stp τ σ H F τ2 σ2 H2 F2 where
  keep := fun c o h n => b.keep c o (a.keep c o h n) fun z => (a.rt c z).elim n fun e => by rw [h] at e; cases e
  dom := fun c o h => let ⟨o', e⟩ := a.dom c o h; b.dom c o' e
  fr := a.fr.trans b.fr
  new := fun c o h => by
    rcases b.new c o h with e | e | e
    · exact a.new c o e
    · refine .inr (.inl ?_)
      cases q : H c with
      | none => rfl
      | some u =>
        obtain ⟨o', e'⟩ := a.dom c u q
        rw [e] at e'
        cases e'
    · rcases a.rt c e with e | e
      · exact .inr (.inr e)
      · exact .inr (.inl e)
  rt := fun p h => by
    rcases b.rt p h with e | e
    · exact a.rt p e
    · refine .inr ?_
      cases q : H p with
      | none => rfl
      | some u =>
        obtain ⟨o', e'⟩ := a.dom p u q
        rw [e] at e'
        cases e'
  ln := fun i d h => by
    obtain ⟨⟨d', e1⟩, e2⟩ := a.ln i d h
    obtain ⟨e3, e4⟩ := b.ln i d' e1
    exact ⟨e3, e4.trans e2⟩
/-- what was free after is free before -/
theorem Stp.free (a : Stp τ σ H F τ1 σ1 H1 F1) {p : Addr} (h : H1 p = none) : H p = none := by
  cases q : H p with
  | none => rfl
  | some u =>
    obtain ⟨o', e'⟩ := a.dom p u q
    rw [h] at e'
    cases e'

/-- nothing but new objects; the new ones may be laid down -/
structure Grow (H F H1 F1 : Hp) : Prop where
  hh : Same H H1
  ff : Same F F1
  sub : Same F1 H1
  new : ∀ b o, F1 b = some o → F b = some o ∨ H b = none
theorem Grow.refl (h : Same F H) : Grow H F H F := ⟨fun _ _ h => h, fun _ _ h => h, h, fun _ _ h => .inl h⟩
theorem Grow.trans (a : Grow H F H1 F1) (b : Grow H1 F1 H2 F2) : Grow H F H2 F2 :=
  ⟨a.hh.trans b.hh, a.ff.trans b.ff, b.sub, fun c o h => by
    rcases b.new c o h with e | e
    · exact a.new c o e
    · exact .inr (a.hh.free e)⟩
theorem Grow.upd {p : Addr} {o : HO} (h : Same F H) (hp : H p = none) : Grow H F (upd H p o) (upd F p o) := by
  have hF : F p = none := h.free hp
  refine ⟨fun b u e => ?_, fun b u e => ?_, fun b u e => ?_, fun b u e => ?_⟩
  · rw [upd_ne (ne_of_none e hp)]; exact e
  · rw [upd_ne (ne_of_none e hF)]; exact e
  · by_cases q : b = p
    · subst q; rw [upd_same] at e ⊢; exact e
    · rw [upd_ne q] at e ⊢; exact h b u e
  · by_cases q : b = p
    · subst q; exact .inr hp
    · rw [upd_ne q] at e; exact .inl e
theorem Grow.updH {p : Addr} {o : HO} (h : Same F H) (hp : H p = none) : Grow H F (L2.upd H p o) F := by
  refine ⟨fun b u e => ?_, fun b u e => e, fun b u e => ?_, fun b u e => .inl e⟩
  · rw [upd_ne (ne_of_none e hp)]; exact e
  · rw [upd_ne (ne_of_none (h b u e) hp)]; exact h b u e
theorem Ok.grow (k : Ok K F τ σ H) (g : Grow H F H1 F1) : Ok K F1 τ σ H1 := by
  have fnone : ∀ {p : Addr}, F p = none → (∃ o, H p = some o) → F1 p = none := fun {p} a ⟨o, b⟩ => by
    cases q : F1 p with
    | none => rfl
    | some u =>
      rcases g.new p u q with e | e
      · rw [a] at e; cases e
      · rw [b] at e; cases e
  refine ⟨g.sub, k.len, fun i s x h1 h2 => ?_, k.ne⟩
  have q := k.sl i s x h1 h2
  have same : ∀ {p : Addr}, (∃ o, H p = some o) → H1 p = H p := fun {p} ⟨o, e⟩ => (g.hh p o e).trans e.symm
  cases s with
  | no => trivial
  | fr d =>
    obtain ⟨v, e, r⟩ := q
    exact ⟨v, e, r.mono g.ff⟩
  | ow d =>
    obtain ⟨p, e, a, b⟩ := q
    exact ⟨p, e, fnone a b.there, b.mono g.ff (same b.there)⟩
  | ln d =>
    obtain ⟨p, e, a, b⟩ := q
    exact ⟨p, e, fnone a b.there, b.mono g.ff (same b.there)⟩
theorem Grow.step (g : Grow H F H1 F1) : Stp τ σ H F τ σ H1 F1 :=
  ⟨fun b o h _ => g.hh b o h, fun b o h => ⟨o, g.hh b o h⟩, g.ff, fun b o h => (g.new b o h).imp id .inl, fun _ h => .inl h, fun _ d h => ⟨⟨d, h⟩, rfl⟩⟩
end
end TR

namespace TR
open PySem L2

/-! ### results -/
structure R where
  d : T
  o : Bool
abbrev M (α : Type) := Sls → Option (α × Sls)

/-- a result: laid down, or a new root of its own -/
def ROk (K : PySem.W.Frag) (F' H' : Hp) (τ' : Sls) (σ' : L2.St) (τ : Sls) (σ : L2.St) (H : Hp) (v : V) (r : R) : Prop :=
  (r.o = false ∧ Rp K F' v r.d) ∨ (r.o = true ∧ ∃ p, v = .ref p ∧ F' p = none ∧ ¬ IsRoot τ' σ' p ∧ (H p = none ∨ IsRoot τ σ p) ∧ Own K F' H' p r.d)
/-- the same for an operation on values -/
def RO (K : PySem.W.Frag) (F' H' H : Hp) (v : V) (r : R) : Prop :=
  (r.o = false ∧ Rp K F' v r.d) ∨ (r.o = true ∧ ∃ p, v = .ref p ∧ F' p = none ∧ H p = none ∧ Own K F' H' p r.d)
/-- what is looked at: laid down, or a root -/
def Lk (K : PySem.W.Frag) (F H : Hp) (v : V) (d : T) : Prop := Rp K F v d ∨ ∃ p, v = .ref p ∧ Own K F H p d

section
variable {K : PySem.W.Frag} {τ τ1 τ2 : Sls} {σ σ1 σ2 : L2.St} {H H1 H2 F F1 F2 : Hp}
/-- a root of no slot is laid down for good -/
theorem Ok.lay (k : Ok K F τ σ H) {p : Addr} {o : HO} (hF : F p = none) (hH : H p = some o) (nr : ¬ IsRoot τ σ p) : Ok K (L2.upd F p o) τ σ H := by
  have sm : Same F (L2.upd F p o) := fun b u e => by rw [upd_ne (ne_of_none e hF)]; exact e
  refine ⟨fun b u e => ?_, k.len, fun i s x h1 h2 => ?_, k.ne⟩
  · by_cases q : b = p
    · subst q; rw [upd_same] at e; cases e; exact hH
    · rw [upd_ne q] at e; exact k.sub b u e
  · have q := k.sl i s x h1 h2
    cases s with
    | no => trivial
    | fr d =>
      obtain ⟨v, e, r⟩ := q
      exact ⟨v, e, r.mono sm⟩
    | ow d =>
      obtain ⟨q, e, a, b⟩ := q
      have ne : q ≠ p := fun z => nr ⟨i, _, h1, rfl, by rw [h2, e, z]⟩
      exact ⟨q, e, by rw [upd_ne ne]; exact a, b.mono sm rfl⟩
    | ln d =>
      obtain ⟨q, e, a, b⟩ := q
      have ne : q ≠ p := fun z => nr ⟨i, _, h1, rfl, by rw [h2, e, z]⟩
      exact ⟨q, e, by rw [upd_ne ne]; exact a, b.mono sm rfl⟩
theorem Same.lay {p : Addr} {o : HO} (hF : F p = none) : Same F (L2.upd F p o) := fun b u e => by rw [upd_ne (ne_of_none e hF)]; exact e

/-! ### the judgements' second halves -/
def SE (K : PySem.W.Frag) (te : TE) (f : M R) : Prop := ∀ (τ τ' : Sls) (r : R) (σ : L2.St) (H F : Hp) (Q : VK), f τ = some (r, τ') → Ok K F τ σ H →
  (∀ v H' F', Ok K F' τ' σ H' → Stp τ σ H F τ' σ H' F' → ROk K F' H' τ' σ τ σ H v r → Q v H') → te σ H Q
def SV (K : PySem.W.Frag) (te : TE) (f : M T) : Prop := ∀ (τ τ' : Sls) (d : T) (σ : L2.St) (H F : Hp) (Q : VK), f τ = some (d, τ') → Ok K F τ σ H →
  (∀ v H' F', Ok K F' τ' σ H' → Stp τ σ H F τ' σ H' F' → Rp K F' v d → Q v H') → te σ H Q
def SO (K : PySem.W.Frag) (te : TE) (f : M (Sls → Option T)) : Prop := ∀ (τ τ' : Sls) (rd : Sls → Option T) (σ : L2.St) (H F : Hp) (Q : VK), f τ = some (rd, τ') → Ok K F τ σ H →
  (∀ v H' F', Ok K F' τ' σ H' → Stp τ σ H F τ' σ H' F' →
    (∀ τ2 H2 F2 d, Ok K F2 τ2 σ H2 → Stp τ' σ H' F' τ2 σ H2 F2 → rd τ2 = some d → Lk K F2 H2 v d) → Q v H') → te σ H Q
def SB (K : PySem.W.Frag) (tt : TT) (f : M Bool) : Prop := ∀ (τ τ' : Sls) (b : Bool) (σ : L2.St) (H F : Hp) (Q : Bool → Hp → Prop), f τ = some (b, τ') → Ok K F τ σ H →
  (∀ H' F', Ok K F' τ' σ H' → Stp τ σ H F τ' σ H' F' → Q b H') → tt σ H Q
inductive Out where
  | nx (τ : Sls) | bk (τ : Sls) | ct (τ : Sls) | rt (r : R) (τ : Sls)
def Fin (K : PySem.W.Frag) (τ : Sls) (σ : L2.St) (H F : Hp) (out : Out) (D : Ends) : Prop := match out with
  | .nx τ' => ∀ σ' H' F', Ok K F' τ' σ' H' → Stp τ σ H F τ' σ' H' F' → D.nx σ' H'
  | .bk τ' => ∀ σ' H' F', Ok K F' τ' σ' H' → Stp τ σ H F τ' σ' H' F' → D.bk σ' H'
  | .ct τ' => ∀ σ' H' F', Ok K F' τ' σ' H' → Stp τ σ H F τ' σ' H' F' → D.ct σ' H'
  | .rt r τ' => ∀ v σ' H' F', Ok K F' τ' σ' H' → Stp τ σ H F τ' σ' H' F' → ROk K F' H' τ' σ' τ σ H v r → D.rt v H'
def SS (K : PySem.W.Frag) (ts : TS) (g : Sls → Option Out) : Prop := ∀ (τ : Sls) (out : Out) (σ : L2.St) (H F : Hp) (D : Ends), g τ = some out → Ok K F τ σ H → Fin K τ σ H F out D → ts D σ H

theorem ROk.back {v : V} {r : R} (s : Stp τ σ H F τ1 σ1 H1 F1) (h : ROk K F2 H2 τ2 σ2 τ1 σ1 H1 v r) : ROk K F2 H2 τ2 σ2 τ σ H v r := by
  rcases h with ⟨e, h⟩ | ⟨e, p, h1, h2, h3, h4, h5⟩
  · exact .inl ⟨e, h⟩
  · exact .inr ⟨e, p, h1, h2, h3, h4.elim (fun z => .inl (s.free z)) fun z => (s.rt p z).elim .inr .inl, h5⟩
theorem Fin.after {out : Out} {D : Ends} (s : Stp τ σ H F τ1 σ1 H1 F1) (h : Fin K τ σ H F out D) : Fin K τ1 σ1 H1 F1 out D := by
  cases out with
  | nx τ' => exact fun σ' H' F' k s' => h σ' H' F' k (s.trans s')
  | bk τ' => exact fun σ' H' F' k s' => h σ' H' F' k (s.trans s')
  | ct τ' => exact fun σ' H' F' k s' => h σ' H' F' k (s.trans s')
  | rt r τ' => exact fun v σ' H' F' k s' q => h v σ' H' F' k (s.trans s') (q.back s)
/-- an operation's result, behind a state that grew -/
theorem RO.ok {v : V} {r : R} (k : Ok K F τ σ H) (g : Grow H F H1 F1) (h : RO K F1 H1 H v r) : ROk K F1 H1 τ σ τ σ H v r := by
  rcases h with ⟨e, h⟩ | ⟨e, p, h1, h2, h3, h4⟩
  · exact .inl ⟨e, h⟩
  · exact .inr ⟨e, p, h1, h2, (fun z => by obtain ⟨o, e⟩ := k.rootH z; rw [h3] at e; cases e), .inl h3, h4⟩

/-! ### laying a result down -/
def fz (f : M R) : M T := fun τ => match f τ with
  | some (r, τ1) => some (r.d, τ1)
  | none => none
theorem SE.fz {te : TE} {f : M R} (h : SE K te f) : SV K te (fz f) := by
  intro τ τ' d σ H F Q e k c
  unfold TR.fz at e
  split at e
  · rename_i r τ1 e1
    cases e
    refine h τ _ r σ H F Q e1 k fun v H' F' k' s q => ?_
    rcases q with ⟨_, q⟩ | ⟨_, p, rfl, q2, q3, q4, q5⟩
    · exact c v H' F' k' s q
    · obtain ⟨o, e⟩ := q5.there
      refine c _ H' (L2.upd F' p o) (k'.lay q2 e q3) ⟨s.keep, s.dom, s.fr.trans (Same.lay q2), fun b u z => ?_, s.rt, s.ln⟩ (q5.rp (Same.lay q2) e upd_same)
      by_cases hb : b = p
      · subst hb; exact .inr q4
      · rw [upd_ne hb] at z; exact s.new b u z
  · cases e
/-- laid down, as a result -/
def rv (f : M T) : M R := fun τ => match f τ with
  | some (d, τ1) => some (⟨d, false⟩, τ1)
  | none => none
theorem SV.rv {te : TE} {f : M T} (h : SV K te f) : SE K te (rv f) := by
  intro τ τ' r σ H F Q e k c
  unfold TR.rv at e
  split at e
  · rename_i d τ1 e1
    cases e
    exact h τ _ d σ H F Q e1 k fun v H' F' k' s q => c v H' F' k' s (.inl ⟨rfl, q⟩)
  · cases e
/-- .. as an operand -/
def ov (f : M T) : M (Sls → Option T) := fun τ => match f τ with
  | some (d, τ1) => some (fun _ => some d, τ1)
  | none => none
theorem SV.ov {te : TE} {f : M T} (h : SV K te f) : SO K te (ov f) := by
  intro τ τ' rd σ H F Q e k c
  unfold TR.ov at e
  split at e
  · rename_i d τ1 e1
    cases e
    refine h τ _ d σ H F Q e1 k fun v H' F' k' s q => c v H' F' k' s fun τ2 H2 F2 d' k2 s2 e2 => ?_
    cases e2
    exact .inl (q.mono s2.fr)
  · cases e

/-! ### names -/
def slT : Option Sl → Option T
  | some (.fr d) => some d
  | some (.ow d) => some d
  | some (.ln d) => some d
  | _ => none
/-- a name read as a value: an own root is laid down -/
def vrd (i : Nat) : M T := fun τ => match τ[i]? with
  | some (.fr d) => some (d, τ)
  | some (.ow d) => some (d, τ.set i (.fr d))
  | _ => none
/-- a name as an operand -/
def prd (i : Nat) : M (Sls → Option T) := fun τ => some (fun τ2 => slT τ2[i]?, τ)

theorem Ok.val (k : Ok K F τ σ H) {i : Nat} {s : Sl} (h : τ[i]? = some s) (hn : s ≠ .no) : ∃ v, σ[i]? = some (some v) ∧ ∀ {d}, slT (some s) = some d → Lk K F H v d := by
  have hi : i < σ.length := by rw [← k.len]; exact (List.getElem?_eq_some_iff.mp h).1
  have hx : σ[i]? = some σ[i] := List.getElem?_eq_getElem hi
  have q := k.sl i s _ h hx
  cases s with
  | no => exact absurd rfl hn
  | fr d =>
    obtain ⟨v, e, r⟩ := q
    rw [e] at hx
    exact ⟨v, hx, fun e => by cases e; exact .inl r⟩
  | ow d =>
    obtain ⟨p, e, a, b⟩ := q
    rw [e] at hx
    exact ⟨_, hx, fun e => by cases e; exact .inr ⟨p, rfl, b⟩⟩
  | ln d =>
    obtain ⟨p, e, a, b⟩ := q
    rw [e] at hx
    exact ⟨_, hx, fun e => by cases e; exact .inr ⟨p, rfl, b⟩⟩

theorem rootAt_set {i j : Nat} {s : Sl} {p : Addr} (h : s.isRoot = false) (r : RootAt (τ.set i s) σ j p) : j ≠ i ∧ RootAt τ σ j p := by
  obtain ⟨s', h1, h2, h3⟩ := r
  by_cases q : i = j
  · subst q
    by_cases hl : i < τ.length
    · rw [List.getElem?_set_self hl] at h1
      cases h1
      rw [h] at h2
      cases h2
    · rw [List.getElem?_eq_none (by simpa using hl)] at h1
      cases h1
  · rw [List.getElem?_set_ne q] at h1
    exact ⟨fun e => q e.symm, s', h1, h2, h3⟩

/-- an own root is laid down -/
theorem Ok.freeze (k : Ok K F τ σ H) {i : Nat} {d : T} (h : τ[i]? = some (.ow d)) :
    ∃ p F', σ[i]? = some (some (.ref p)) ∧ Ok K F' (τ.set i (.fr d)) σ H ∧ Stp τ σ H F (τ.set i (.fr d)) σ H F' ∧ Rp K F' (.ref p) d := by
  have hl : i < τ.length := (List.getElem?_eq_some_iff.mp h).1
  have hi : i < σ.length := by rw [← k.len]; exact hl
  have hx : σ[i]? = some σ[i] := List.getElem?_eq_getElem hi
  obtain ⟨p, e, a, b⟩ := k.sl i _ _ h hx
  rw [e] at hx
  obtain ⟨o, ho⟩ := b.there
  have ri : RootAt τ σ i p := ⟨_, h, rfl, hx⟩
  have k1 : Ok K F (τ.set i .no) σ H := by
    refine ⟨k.sub, by rw [List.length_set]; exact k.len, fun j s x h1 h2 => ?_, fun j l q r1 r2 => k.ne j l q (rootAt_set rfl r1).2 (rootAt_set rfl r2).2⟩
    by_cases q : i = j
    · subst q
      rw [List.getElem?_set_self hl] at h1
      cases h1
      trivial
    · rw [List.getElem?_set_ne q] at h1
      exact k.sl j s x h1 h2
  have nr : ¬ IsRoot (τ.set i .no) σ p := fun ⟨j, r⟩ => (rootAt_set rfl r).1 (k.ne j i p (rootAt_set rfl r).2 ri)
  have k2 := k1.lay a ho nr
  have rp : Rp K (L2.upd F p o) (.ref p) d := b.rp (Same.lay a) ho upd_same
  refine ⟨p, L2.upd F p o, hx, ⟨k2.sub, by rw [List.length_set]; exact k.len, fun j s x h1 h2 => ?_, fun j l q r1 r2 => k.ne j l q (rootAt_set rfl r1).2 (rootAt_set rfl r2).2⟩, ?_, rp⟩
  · by_cases q : i = j
    · subst q
      rw [List.getElem?_set_self hl] at h1
      cases h1
      rw [hx] at h2
      cases h2
      exact ⟨_, rfl, rp⟩
    · have h1' := h1
      rw [List.getElem?_set_ne q] at h1'
      exact k2.sl j s x (by rw [List.getElem?_set_ne q]; exact h1') h2
  · refine ⟨fun b u e _ => e, fun b u e => ⟨u, e⟩, Same.lay a, fun b u e => ?_, fun q ⟨j, r⟩ => .inl ⟨j, (rootAt_set rfl r).2⟩, fun j d' e => ⟨⟨d', ?_⟩, rfl⟩⟩
    · by_cases hb : b = p
      · subst hb; exact .inr (.inr ⟨i, ri⟩)
      · rw [upd_ne hb] at e; exact .inl e
    · have q : i ≠ j := fun z => by subst z; rw [h] at e; cases e
      rw [List.getElem?_set_ne q]; exact e
theorem sv_var {i : Nat} : SV K (tVar i) (vrd i) := by
  intro τ τ' d σ H F Q e k c
  unfold vrd at e
  split at e
  · rename_i d' e1
    cases e
    have hi : i < σ.length := by rw [← k.len]; exact (List.getElem?_eq_some_iff.mp e1).1
    have hx : σ[i]? = some σ[i] := List.getElem?_eq_getElem hi
    obtain ⟨v, e, r⟩ := k.sl i _ _ e1 hx
    rw [e] at hx
    exact ⟨v, hx, c v H F k .refl r⟩
  · rename_i d' e1
    cases e
    obtain ⟨p, F', h1, h2, h3, h4⟩ := k.freeze e1
    exact ⟨_, h1, c _ H F' h2 h3 h4⟩
  · cases e
/-- needs the slot to be filled -/
def prdOk (i : Nat) : M (Sls → Option T) := fun τ => match slT τ[i]? with
  | some _ => some (fun τ2 => slT τ2[i]?, τ)
  | none => none
theorem so_var {i : Nat} : SO K (tVar i) (prdOk i) := by
  intro τ τ' rd σ H F Q e k c
  unfold prdOk at e
  split at e
  · rename_i d e1
    cases e
    cases es : τ[i]? with
    | none => rw [es] at e1; cases e1
    | some s =>
      have hn : s ≠ .no := fun z => by rw [es, z] at e1; cases e1
      obtain ⟨v, hv, _⟩ := k.val es hn
      refine ⟨v, hv, c v H F k .refl fun τ2 H2 F2 d2 k2 s2 e2 => ?_⟩
      replace e2 : slT τ2[i]? = some d2 := e2
      cases es2 : τ2[i]? with
      | none => rw [es2] at e2; cases e2
      | some s' =>
        rw [es2] at e2
        have hn2 : s' ≠ .no := fun z => by rw [z] at e2; cases e2
        obtain ⟨v', hv', l⟩ := k2.val es2 hn2
        rw [hv] at hv'
        cases hv'
        exact l e2
  · cases e
def cst (d : T) : M T := fun τ => some (d, τ)
theorem sv_c {v : V} {d : T} (h : ∀ H, Rp K H v d) : SV K (tC v) (cst d) := by
  intro τ τ' d' σ H F Q e k c
  cases e
  exact c v H F k .refl (h F)
end
end TR

namespace TR
open PySem L2

/-! ### trees as the library's data -/
mutual
def T.toD : T → PyData
  | .non => .none
  | .bl b => .bool b
  | .int i => .int i
  | .str x => .str x
  | .tup xs => .tuple (toDA xs)
  | .lst xs => .list (toDA xs)
  | .frl xs => .list (toDA xs)
  | .dic _ => .dict []
  | .dit _ => .dict []
def toDA : List T → List PyData
  | [] => []
  | x :: xs => x.toD :: toDA xs
end
mutual
def T.lay : T → Bool
  | .non => true
  | .bl _ => true
  | .int _ => true
  | .str x => PyData.canLay0 (.str x)
  | .tup xs => layA xs
  | .lst xs => layA xs
  | .frl xs => layA xs
  | .dic _ => false
  | .dit _ => false
def layA : List T → Bool
  | [] => true
  | x :: xs => x.lay && layA xs
end
mutual
def T.dep : T → Nat
  | .non => 0
  | .bl _ => 0
  | .int _ => 0
  | .str _ => 0
  | .tup xs => depA xs + 1
  | .lst xs => depA xs + 1
  | .frl xs => depA xs + 1
  | .dic _ => 1
  | .dit _ => 1
def depA : List T → Nat
  | [] => 0
  | x :: xs => max x.dep (depA xs)
end
mutual
/-- == -/
def T.eqv : T → T → Bool
  | .non, .non => true
  | .bl a, .bl b => a == b
  | .bl a, .int j => (if a then 1 else 0) == j
  | .int i, .bl b => i == (if b then 1 else 0)
  | .int i, .int j => i == j
  | .str x, .str y => x == y
  | .lst xs, .lst ys => eqvA xs ys
  | .lst xs, .frl ys => eqvA xs ys
  | .frl xs, .lst ys => eqvA xs ys
  | .frl xs, .frl ys => eqvA xs ys
  | .tup xs, .tup ys => eqvA xs ys
  | _, _ => false
def eqvA : List T → List T → Bool
  | [], [] => true
  | x :: xs, y :: ys => x.eqv y && eqvA xs ys
  | _, _ => false
end
def T.shp (d : T) : Bool := d.lay && decide (d.dep ≤ 64)
mutual
theorem lay_toD : ∀ d : T, PyData.canLay0 d.toD = d.lay
  | .non => rfl
  | .bl _ => rfl
  | .int _ => rfl
  | .str x => rfl
  | .tup xs => lay_toDA xs
  | .lst xs => lay_toDA xs
  | .frl xs => lay_toDA xs
  | .dic _ => rfl
  | .dit _ => rfl
theorem lay_toDA : ∀ ds : List T, PyData.canLayAll0 (toDA ds) = layA ds
  | [] => rfl
  | x :: xs => by
    show (PyData.canLay0 x.toD && PyData.canLayAll0 (toDA xs)) = (x.lay && layA xs)
    rw [lay_toD x, lay_toDA xs]
end
mutual
theorem dep_toD : ∀ d : T, PyData.depth d.toD = d.dep
  | .non => rfl
  | .bl _ => rfl
  | .int _ => rfl
  | .str x => rfl
  | .tup xs => congrArg (· + 1) (dep_toDA xs)
  | .lst xs => congrArg (· + 1) (dep_toDA xs)
  | .frl xs => congrArg (· + 1) (dep_toDA xs)
  | .dic _ => rfl
  | .dit _ => rfl
theorem dep_toDA : ∀ ds : List T, PyData.depthAll (toDA ds) = depA ds
  | [] => rfl
  | x :: xs => by
    show max (PyData.depth x.toD) (PyData.depthAll (toDA xs)) = max x.dep (depA xs)
    rw [dep_toD x, dep_toDA xs]
end
mutual
theorem eqv_toD : ∀ a b : T, PyData.eqv a.toD b.toD = a.eqv b
  | .non, b => by cases b <;> rfl
  | .bl _, b => by cases b <;> rfl
  | .int _, b => by cases b <;> rfl
  | .str _, b => by cases b <;> rfl
  | .dic _, b => by cases b <;> rfl
  | .dit _, b => by cases b <;> rfl
  | .tup xs, b => by
    cases b with
    | tup ys => exact eqv_toDA xs ys
    | _ => rfl
  | .lst xs, b => by
    cases b with
    | lst ys => exact eqv_toDA xs ys
    | frl ys => exact eqv_toDA xs ys
    | _ => rfl
  | .frl xs, b => by
    cases b with
    | lst ys => exact eqv_toDA xs ys
    | frl ys => exact eqv_toDA xs ys
    | _ => rfl
theorem eqv_toDA : ∀ as bs : List T, PyData.eqvAll (toDA as) (toDA bs) = eqvA as bs
  | [], [] => rfl
  | [], _ :: _ => rfl
  | _ :: _, [] => rfl
  | x :: xs, y :: ys => by
    show (PyData.eqv x.toD y.toD && PyData.eqvAll (toDA xs) (toDA ys)) = (x.eqv y && eqvA xs ys)
    rw [eqv_toD x y, eqv_toDA xs ys]
end
theorem shp_ok {d : T} (h : d.shp = true) : SeqAt.shaped d.toD = true := by
  unfold T.shp at h
  unfold SeqAt.shaped
  rw [lay_toD, dep_toD]
  exact h
section
variable {K : PySem.W.Frag} {H : Hp}
mutual
theorem Rp.dp : ∀ {v : V} {d : T}, Rp K H v d → d.lay = true → Dp K H v d.toD
  | _, _, .non, _ => .non
  | _, _, .bl b, _ => .bl b
  | _, _, .int i, _ => .int i
  | _, _, .str x, _ => .str x
  | _, _, .lst h a, l => .lst (.inl (.inl h)) (RpA.dp a l)
  | _, _, .tup h a, l => .tup (.inl (.inl h)) (RpA.dp a l)
  | _, _, .frl h a, l => .lst h (RpA.dp a l)
  | _, _, .dic h a, l => by cases l
  | _, _, .dit h a, l => by cases l
theorem RpA.dp : ∀ {vs : List V} {ds : List T}, RpA K H vs ds → layA ds = true → DpAll K H vs (toDA ds)
  | _, _, .nil, _ => .nil
  | _, x :: xs, .cons a b, l => by
    have l' : (x.lay && layA xs) = true := l
    rw [Bool.and_eq_true] at l'
    exact .cons (Rp.dp a l'.1) (RpA.dp b l'.2)
end
end
section
variable {K : PySem.W.Frag} {F H : Hp}
theorem Lk.mono {H' F' : Hp} {v : V} {d : T} (l : Lk K F H v d) (ff : Same F F') (hh : Same H H') : Lk K F' H' v d := by
  rcases l with l | ⟨p, e, o⟩
  · exact .inl (l.mono ff)
  · obtain ⟨u, hu⟩ := o.there
    exact .inr ⟨p, e, o.mono ff ((hh p u hu).trans hu.symm)⟩
theorem Lk.dp {v : V} {d : T} (s : Same F H) (l : Lk K F H v d) (y : d.lay = true) : Dp K H v d.toD := by
  rcases l with l | ⟨p, rfl, o⟩
  · exact (l.mono s).dp y
  · cases d with
    | lst ds =>
      obtain ⟨vs, h, a⟩ := o
      exact .lst (.inl (.inl h)) ((a.mono s).dp y)
    | dic _ => cases y
    | dit _ => cases y
    | _ => exact o.elim
theorem Lk.int {v : V} {i : Int} (l : Lk K F H v (.int i)) : v = .int i := by
  rcases l with l | ⟨p, rfl, o⟩
  · cases l; rfl
  · exact o.elim
theorem Lk.bl {v : V} {i : Bool} (l : Lk K F H v (.bl i)) : v = .bl i := by
  rcases l with l | ⟨p, rfl, o⟩
  · cases l; rfl
  · exact o.elim
theorem Lk.str {v : V} {i : Str} (l : Lk K F H v (.str i)) : v = .str i := by
  rcases l with l | ⟨p, rfl, o⟩
  · cases l; rfl
  · exact o.elim
theorem Lk.non {v : V} (l : Lk K F H v .non) : v = .non := by
  rcases l with l | ⟨p, rfl, o⟩
  · cases l; rfl
  · exact o.elim
theorem Lk.lst {v : V} {ds : List T} (s : Same F H) (l : Lk K F H v (.lst ds)) : ∃ a vs, v = .ref a ∧ H a = some (.lst vs) ∧ RpA K F vs ds := by
  rcases l with l | ⟨p, rfl, vs, h, a⟩
  · cases l with
    | lst h a => exact ⟨_, _, rfl, s _ _ h, a⟩
  · exact ⟨p, vs, rfl, h, a⟩
theorem Lk.frl {v : V} {ds : List T} (s : Same F H) (l : Lk K F H v (.frl ds)) : ∃ a vs, v = .ref a ∧ SqL K H a vs ∧ RpA K F vs ds := by
  rcases l with l | ⟨p, rfl, o⟩
  · cases l with
    | frl h a => exact ⟨_, _, rfl, s.seq h, a⟩
  · exact o.elim
theorem Lk.tup {v : V} {ds : List T} (s : Same F H) (l : Lk K F H v (.tup ds)) : ∃ a vs, v = .ref a ∧ H a = some (.tup vs) ∧ RpA K F vs ds := by
  rcases l with l | ⟨p, rfl, o⟩
  · cases l with
    | tup h a => exact ⟨_, _, rfl, s _ _ h, a⟩
  · exact o.elim
theorem Lk.dic {v : V} {ds : List (T × T)} (s : Same F H) (l : Lk K F H v (.dic ds)) : ∃ a kvs, v = .ref a ∧ Rd H a (.dK kvs) ∧ RpK K F kvs ds := by
  rcases l with l | ⟨p, rfl, kvs, h, a⟩
  · cases l with
    | dic h a => exact ⟨_, _, rfl, Same.rd s h, a⟩
  · exact ⟨p, kvs, rfl, .inl h, a⟩
theorem Lk.dit {v : V} {ds : List (T × T)} (s : Same F H) (l : Lk K F H v (.dit ds)) : ∃ a kvs, v = .ref a ∧ H a = some (.dT kvs) ∧ RpT K F kvs ds := by
  rcases l with l | ⟨p, rfl, kvs, h, a⟩
  · cases l with
    | dit h a => exact ⟨_, _, rfl, s _ _ h, a⟩
  · exact ⟨p, kvs, rfl, h, a⟩
/-- a list, tracked or known -/
def T.seqL : T → Option (List T)
  | .lst ds => some ds
  | .frl ds => some ds
  | _ => none
theorem Lk.seqL {v : V} {d : T} {ds : List T} (s : Same F H) (l : Lk K F H v d) (e : d.seqL = some ds) : ∃ a vs, v = .ref a ∧ SqL K H a vs ∧ RpA K F vs ds := by
  cases d with
  | lst xs =>
    cases e
    obtain ⟨a, vs, h1, h2, h3⟩ := l.lst s
    exact ⟨a, vs, h1, .inl (.inl h2), h3⟩
  | frl xs =>
    cases e
    exact l.frl s
  | _ => cases e
end

/-! ### operations on values -/
def R2S (K : PySem.W.Frag) (r : R2) (g : T → T → Option R) : Prop := ∀ (x y : V) (a b : T) (res : R) (F H : Hp) (Q : VK), g a b = some res → Same F H → Lk K F H x a → Lk K F H y b →
  (∀ v H' F', Grow H F H' F' → RO K F' H' H v res → Q v H') → r x y H Q
def R1S (K : PySem.W.Frag) (r : V → Hp → VK → Prop) (g : T → Option R) : Prop := ∀ (x : V) (a : T) (res : R) (F H : Hp) (Q : VK), g a = some res → Same F H → Lk K F H x a →
  (∀ v H' F', Grow H F H' F' → RO K F' H' H v res → Q v H') → r x H Q
theorem OpR.or {X : Cx} {f : Value → Value → Sem Value} {r r' : R2} (h : OpR X f r) (h' : OpR X f r') : OpR X f (fun x y H Q => r x y H Q ∨ r' x y H Q) := by
  intro pins s σ H x y v u Q I rx ry q
  rcases q with q | q
  · exact h pins s σ H x y v u Q I rx ry q
  · exact h' pins s σ H x y v u Q I rx ry q
abbrev ri (i : Int) : R := ⟨.int i, false⟩
abbrev rb (b : Bool) : R := ⟨.bl b, false⟩
section
variable {K : PySem.W.Frag} {F H : Hp}
theorem ro_fr {F' H' : Hp} {v : V} {d : T} (h : Rp K F' v d) : RO K F' H' H v ⟨d, false⟩ := .inl ⟨rfl, h⟩
theorem ro_new {p : Addr} {vs : List V} {ds : List T} (s : Same F H) (hp : H p = none) (a : RpA K F vs ds) : RO K F (L2.upd H p (.lst vs)) H (.ref p) ⟨.lst ds, true⟩ :=
  .inr ⟨rfl, p, rfl, s.free hp, hp, vs, upd_same, a⟩
theorem new_tup {p : Addr} {vs : List V} {ds : List T} {Q : VK} (s : Same F H) (hp : H p = none) (a : RpA K F vs ds) (c : ∀ v H' F', Grow H F H' F' → RO K F' H' H v ⟨.tup ds, false⟩ → Q v H') : Q (.ref p) (L2.upd H p (.tup vs)) := by
  have g := Grow.upd (o := .tup vs) s hp
  exact c _ _ _ g (ro_fr (.tup upd_same (a.mono g.ff)))
theorem new_lst {p : Addr} {vs : List V} {ds : List T} {Q : VK} (s : Same F H) (hp : H p = none) (a : RpA K F vs ds) (c : ∀ v H' F', Grow H F H' F' → RO K F' H' H v ⟨.lst ds, true⟩ → Q v H') : Q (.ref p) (L2.upd H p (.lst vs)) :=
  c _ _ _ (Grow.updH s hp) (ro_new s hp a)
theorem here {v : V} {d : T} {Q : VK} (s : Same F H) (h : Rp K F v d) (c : ∀ v H' F', Grow H F H' F' → RO K F' H' H v ⟨d, false⟩ → Q v H') : Q v H := c v H F (.refl s) (ro_fr h)
end

/-- + -/
def addG : T → T → Option R
  | .int i, .int j => some (ri (i + j))
  | .str x, .str y => if x.length + y.length ≤ sizeLine then some ⟨.str (x ++ y), false⟩ else none
  | .lst xs, .lst ys => if xs.length + ys.length ≤ sizeLine then some ⟨.lst (xs ++ ys), true⟩ else none
  | .tup xs, .tup ys => if xs.length + ys.length ≤ sizeLine then some ⟨.tup (xs ++ ys), false⟩ else none
  | _, _ => none
def rAdd (K : PySem.W.Frag) : R2 := fun x y H Q => (∃ i j, x = .int i ∧ y = .int j ∧ Q (.int (i + j)) H) ∨ (∃ i j, x = .str i ∧ y = .str j ∧ i.length + j.length ≤ sizeLine ∧ Q (.str (i ++ j)) H) ∨ rCat x y H Q ∨ rCatA K x y H Q
theorem op_addG {X : Cx} : OpR X (binaryOp .Add) (rAdd X.K) := OpR.or op_add (OpR.or op_add_str (OpR.or op_cat op_catA))
theorem RpA.nil_iff {K : PySem.W.Frag} {F : Hp} {vs : List V} {ds : List T} (a : RpA K F vs ds) : vs = [] ↔ ds = [] := by
  cases a <;> simp
theorem s_add {K : PySem.W.Frag} : R2S K (rAdd K) addG := by
  intro x y a b res F H Q e s lx ly c
  unfold addG at e
  split at e
  · cases e
    rw [lx.int, ly.int]
    exact .inl ⟨_, _, rfl, rfl, here s (.int _) c⟩
  · rename_i i j
    split at e
    · rename_i hz
      cases e
      rw [lx.str, ly.str]
      exact .inr (.inl ⟨_, _, rfl, rfl, hz, here s (.str _) c⟩)
    · cases e
  · rename_i xs ys
    split at e
    · rename_i hz
      cases e
      obtain ⟨p, vs, rfl, hp, ap⟩ := lx.lst s
      obtain ⟨q, ws, rfl, hq, aq⟩ := ly.lst s
      exact .inr (.inr (.inl ⟨p, q, vs, ws, rfl, rfl, hp, hq, by rw [ap.length, aq.length]; exact hz, fun l hl => new_lst s hl (ap.append aq) c⟩))
    · cases e
  · rename_i xs ys
    split at e
    · rename_i hz
      cases e
      obtain ⟨p, vs, rfl, hp, ap⟩ := lx.tup s
      obtain ⟨q, ws, rfl, hq, aq⟩ := ly.tup s
      refine .inr (.inr (.inr ⟨p, q, vs, ws, rfl, rfl, SqT.of hp, SqT.of hq, by rw [ap.length, aq.length]; exact hz, fun e1 => ?_, fun e1 e2 => ?_, fun e1 e2 l hl => new_tup s hl (ap.append aq) c⟩))
      · rw [ap.nil_iff] at e1
        subst e1
        rcases ly with l | ⟨_, _, o⟩
        · exact here s l c
        · exact o.elim
      · rw [aq.nil_iff] at e2
        subst e2
        rw [List.append_nil] at c
        rcases lx with l | ⟨_, _, o⟩
        · exact here s l c
        · exact o.elim
    · cases e
  · cases e
def subG : T → T → Option R
  | .int i, .int j => some (ri (i - j))
  | _, _ => none
theorem s_int0 {K : PySem.W.Frag} {f : Int → Int → Int} {g : T → T → Option R} (h : ∀ a b r, g a b = some r → ∃ i j, a = .int i ∧ b = .int j ∧ r = ri (f i j)) : R2S K (rI0 fun i j => .int (f i j)) g := by
  intro x y a b res F H Q e s lx ly c
  obtain ⟨i, j, rfl, rfl, rfl⟩ := h a b res e
  rw [lx.int, ly.int]
  exact ⟨_, _, rfl, rfl, here s (.int _) c⟩
theorem s_intC {K : PySem.W.Frag} {C : Int → Int → Prop} {f : Int → Int → Int} {g : T → T → Option R} (h : ∀ a b r, g a b = some r → ∃ i j, a = .int i ∧ b = .int j ∧ C i j ∧ r = ri (f i j)) : R2S K (rI C fun i j => .int (f i j)) g := by
  intro x y a b res F H Q e s lx ly c
  obtain ⟨i, j, rfl, rfl, hc, rfl⟩ := h a b res e
  rw [lx.int, ly.int]
  exact ⟨_, _, rfl, rfl, hc, here s (.int _) c⟩
theorem s_sub {K : PySem.W.Frag} : R2S K (rI0 fun i j => .int (i - j)) subG := s_int0 fun a b r e => by
  unfold subG at e
  split at e
  · cases e; exact ⟨_, _, rfl, rfl, rfl⟩
  · cases e
/-- * -/
def mulOk (i j : Int) : Bool := decide (i.natAbs < 2 ^ 64) || (decide (j.natAbs < 2 ^ 64) || (decide (i.natAbs < 2 ^ 4096) && decide (j.natAbs < 2 ^ 4096)))
def mulG : T → T → Option R
  | .int i, .int j => if mulOk i j then some (ri (i * j)) else none
  | .lst xs, .int k => if k < 2 ^ 31 ∧ -(2 ^ 31) < k ∧ xs.length * k.toNat ≤ sizeLine then some ⟨.lst (List.replicate k.toNat xs).flatten, true⟩ else none
  | _, _ => none
end TR

namespace TR
open PySem L2

def rMulG : R2 := fun x y H Q => rI CMul (fun i j => .int (i * j)) x y H Q ∨ rI CMulW (fun i j => .int (i * j)) x y H Q ∨ rRep x y H Q
theorem op_mulG {X : Cx} : OpR X (binaryOp .Mult) rMulG := OpR.or op_mul (OpR.or op_mulW op_rep)
theorem RpA.replicate {K : PySem.W.Frag} {F : Hp} {vs : List V} {ds : List T} (a : RpA K F vs ds) : ∀ n : Nat, RpA K F (List.replicate n vs).flatten (List.replicate n ds).flatten
  | 0 => .nil
  | n + 1 => by
    rw [List.replicate_succ, List.replicate_succ, List.flatten_cons, List.flatten_cons]
    exact a.append (RpA.replicate a n)
theorem s_mul {K : PySem.W.Frag} : R2S K rMulG mulG := by
  intro x y a b res F H Q e s lx ly c
  unfold mulG at e
  split at e
  · rename_i i j
    split at e
    · rename_i hz
      cases e
      rw [lx.int, ly.int]
      unfold mulOk at hz
      simp only [Bool.or_eq_true, Bool.and_eq_true, decide_eq_true_eq] at hz
      rcases hz with h | h | ⟨h1, h2⟩
      · exact .inl ⟨_, _, rfl, rfl, .inl (by omega), here s (.int _) c⟩
      · exact .inl ⟨_, _, rfl, rfl, .inr (by omega), here s (.int _) c⟩
      · exact .inr (.inl ⟨_, _, rfl, rfl, wide_mul h1 h2 (by omega) (by omega) (by omega), here s (.int _) c⟩)
    · cases e
  · rename_i xs k
    split at e
    · rename_i hz
      cases e
      obtain ⟨p, vs, rfl, hp, ap⟩ := lx.lst s
      rw [ly.int]
      exact .inr (.inr ⟨p, k, vs, rfl, rfl, hp, by omega, by omega, by rw [ap.length]; exact hz.2.2, fun l hl => new_lst s hl (ap.replicate _) c⟩)
    · cases e
  · cases e
def modG : T → T → Option R
  | .int i, .int j => if j = 0 then none else some (ri (i.fmod j))
  | _, _ => none
theorem s_mod {K : PySem.W.Frag} : R2S K (rI (fun _ j => j ≠ 0) fun i j => .int (i.fmod j)) modG := s_intC fun a b r e => by
  unfold modG at e
  split at e
  · split at e
    · cases e
    · cases e; exact ⟨_, _, rfl, rfl, by assumption, rfl⟩
  · cases e
def fdivOk (j : Int) : Bool := decide (j ≠ 0) && (decide (j.natAbs < 1073741824) || (decide (0 < j) && decide (j.natAbs < 2 ^ 4096)))
def fdivG : T → T → Option R
  | .int i, .int j => if fdivOk j then some (ri (i.fdiv j)) else none
  | _, _ => none
def rFdivG : R2 := fun x y H Q => rI CDivN (fun i j => .int (i.fdiv j)) x y H Q ∨ rI CDivW (fun i j => .int (i / j)) x y H Q
theorem op_fdivG {X : Cx} : OpR X (binaryOp .FloorDiv) rFdivG := OpR.or op_fdivN op_fdivW
theorem s_fdiv {K : PySem.W.Frag} : R2S K rFdivG fdivG := by
  intro x y a b res F H Q e s lx ly c
  unfold fdivG at e
  split at e
  · rename_i i j
    split at e
    · rename_i hz
      cases e
      rw [lx.int, ly.int]
      unfold fdivOk at hz
      simp only [Bool.or_eq_true, Bool.and_eq_true, decide_eq_true_eq] at hz
      obtain ⟨h0, h | ⟨h1, h2⟩⟩ := hz
      · exact .inl ⟨_, _, rfl, rfl, ⟨h0, h⟩, here s (.int _) c⟩
      · refine .inr ⟨_, _, rfl, rfl, wide_div h1 h2 (by omega) (by omega), ?_⟩
        have e1 : i / j = i.fdiv j := (Int.fdiv_eq_ediv_of_nonneg i (by omega)).symm
        show Q (.int (i / j)) H
        rw [e1]
        exact here s (.int _) c
    · cases e
  · cases e
def powOk (i j : Int) : Bool := decide (0 ≤ j) && (Nat.ble j.natAbs 1000000 && decide (i.natAbs < 2 ^ 64))
def powG : T → T → Option R
  | .int i, .int j => if powOk i j then some (ri (i ^ j.toNat)) else none
  | _, _ => none
theorem s_pow {K : PySem.W.Frag} : R2S K (rI CPow fun i j => .int (i ^ j.toNat)) powG := s_intC fun a b r e => by
  unfold powG at e
  split at e
  · split at e
    · rename_i h
      simp only [powOk, Bool.and_eq_true, decide_eq_true_eq] at h
      have hb := Nat.le_of_ble_eq_true h.2.1
      cases e; exact ⟨_, _, rfl, rfl, ⟨h.1, by omega, h.2.2⟩, rfl⟩
    · cases e
  · cases e
def shlG : T → T → Option R
  | .int i, .int j => if powOk i j then some (ri (i * 2 ^ j.toNat)) else none
  | _, _ => none
theorem s_shl {K : PySem.W.Frag} : R2S K (rI CPow fun i j => .int (i * 2 ^ j.toNat)) shlG := s_intC fun a b r e => by
  unfold shlG at e
  split at e
  · split at e
    · rename_i h
      simp only [powOk, Bool.and_eq_true, decide_eq_true_eq] at h
      have hb := Nat.le_of_ble_eq_true h.2.1
      cases e; exact ⟨_, _, rfl, rfl, ⟨h.1, by omega, h.2.2⟩, rfl⟩
    · cases e
  · cases e
def andG : T → T → Option R
  | .int i, .int j => some (ri (Builtin.bitAnd i j))
  | _, _ => none
theorem s_and {K : PySem.W.Frag} : R2S K (rI0 fun i j => .int (Builtin.bitAnd i j)) andG := s_int0 fun a b r e => by
  unfold andG at e
  split at e
  · cases e; exact ⟨_, _, rfl, rfl, rfl⟩
  · cases e

/-! ### comparisons -/
def intsOf : List T → Option (List Int)
  | [] => some []
  | .int i :: r => (intsOf r).map (i :: ·)
  | _ :: _ => none
theorem intsOf_rp {K : PySem.W.Frag} {F : Hp} : ∀ {ds : List T} {ns : List Int} {vs : List V}, intsOf ds = some ns → RpA K F vs ds → vs = ns.map V.int
  | [], ns, vs, e, a => by
    cases e; cases a; rfl
  | .int i :: r, ns, vs, e, a => by
    cases a with
    | cons h t =>
      cases h
      unfold intsOf at e
      cases q : intsOf r with
      | none => rw [q] at e; cases e
      | some ms =>
        rw [q] at e
        cases e
        rw [intsOf_rp q t]
        rfl
  | .non :: r, _, _, e, _ => by cases e
  | .bl _ :: r, _, _, e, _ => by cases e
  | .str _ :: r, _, _, e, _ => by cases e
  | .tup _ :: r, _, _, e, _ => by cases e
  | .lst _ :: r, _, _, e, _ => by cases e
  | .frl _ :: r, _, _, e, _ => by cases e
  | .dic _ :: r, _, _, e, _ => by cases e
  | .dit _ :: r, _, _, e, _ => by cases e
def ltG : T → T → Option R
  | .int i, .int j => some (rb (decide (i < j)))
  | .tup xs, .tup ys => match intsOf xs, intsOf ys with
    | some ns, some ms => some (rb (HT.lexLt ns ms))
    | _, _ => none
  | _, _ => none
def rLtG (K : PySem.W.Frag) : R2 := fun x y H Q => rI0 (fun i j => .bl (decide (i < j))) x y H Q ∨ rLtT K x y H Q
theorem op_ltG {X : Cx} (hu : X.A.units < cLine) : OpR X (compareOp .Lt) (rLtG X.K) := OpR.or op_lt (op_ltT hu)
theorem s_lt {K : PySem.W.Frag} : R2S K (rLtG K) ltG := by
  intro x y a b res F H Q e s lx ly c
  unfold ltG at e
  split at e
  · cases e
    rw [lx.int, ly.int]
    exact .inl ⟨_, _, rfl, rfl, here s (.bl _) c⟩
  · split at e
    · rename_i ns ms h1 h2
      cases e
      obtain ⟨p, vs, rfl, hp, ap⟩ := lx.tup s
      obtain ⟨q, ws, rfl, hq, aq⟩ := ly.tup s
      rw [intsOf_rp h1 ap] at hp
      rw [intsOf_rp h2 aq] at hq
      exact .inr ⟨p, q, ns, ms, rfl, rfl, SqT.of hp, SqT.of hq, here s (.bl _) c⟩
    · cases e
  · cases e
def cmpI (p : Int → Int → Bool) : T → T → Option R
  | .int i, .int j => some (rb (p i j))
  | _, _ => none
theorem s_cmpI {K : PySem.W.Frag} {p : Int → Int → Bool} : R2S K (rI0 fun i j => .bl (p i j)) (cmpI p) := by
  intro x y a b res F H Q e s lx ly c
  unfold cmpI at e
  split at e
  · cases e
    rw [lx.int, ly.int]
    exact ⟨_, _, rfl, rfl, here s (.bl _) c⟩
  · cases e
def leG := cmpI fun i j => decide (i ≤ j)
def gtG := cmpI fun i j => decide (j < i)
def geG := cmpI fun i j => decide (j ≤ i)
theorem s_le {K : PySem.W.Frag} : R2S K (rI0 fun i j => .bl (decide (i ≤ j))) leG := s_cmpI
theorem s_gt {K : PySem.W.Frag} : R2S K (rI0 fun i j => .bl (decide (j < i))) gtG := s_cmpI
theorem s_ge {K : PySem.W.Frag} : R2S K (rI0 fun i j => .bl (decide (j ≤ i))) geG := s_cmpI
def eqG (a b : T) : Option R := if a.shp && b.shp then some (rb (a.eqv b)) else none
def neG (a b : T) : Option R := if a.shp && b.shp then some (rb (!a.eqv b)) else none
theorem shp_lay {d : T} (h : d.shp = true) : d.lay = true := by
  unfold T.shp at h
  exact (Bool.and_eq_true_iff.mp h).1
theorem s_eq {K : PySem.W.Frag} : R2S K (rEqD K) eqG := by
  intro x y a b res F H Q e s lx ly c
  unfold eqG at e
  split at e
  · rename_i h
    cases e
    rw [Bool.and_eq_true] at h
    refine ⟨_, _, lx.dp s (shp_lay h.1), ly.dp s (shp_lay h.2), shp_ok h.1, shp_ok h.2, ?_⟩
    rw [eqv_toD]
    exact here s (.bl _) c
  · cases e
theorem s_ne {K : PySem.W.Frag} : R2S K (rNeD K) neG := by
  intro x y a b res F H Q e s lx ly c
  unfold neG at e
  split at e
  · rename_i h
    cases e
    rw [Bool.and_eq_true] at h
    refine ⟨_, _, lx.dp s (shp_lay h.1), ly.dp s (shp_lay h.2), shp_ok h.1, shp_ok h.2, ?_⟩
    rw [eqv_toD]
    exact here s (.bl _) c
  · cases e
/-! ### is -/
def isT : T → T → Option Bool
  | .non, .non => some true
  | _, .non => some false
  | .bl a, .bl b => some (decide (a = b))
  | _, .bl _ => some false
  | _, _ => none
def isG (a b : T) : Option R := (isT a b).map rb
def isnG (a b : T) : Option R := (isT a b).map fun z => rb (!z)
def rIsS (neg : Bool) : R2 := fun x y H Q => (y = .non ∨ ∃ b, y = .bl b) ∧ Q (.bl (if neg then !decide (x = y) else decide (x = y))) H
theorem op_isS {X : Cx} : OpR X (compareOp .Is) (rIsS false) := by
  intro pins s σ H x y v u Q I rx ry h
  obtain ⟨h, q⟩ := h
  rcases h with rfl | ⟨b, rfl⟩
  · exact op_isN pins s σ H x _ v u Q I rx ry ⟨rfl, q⟩
  · obtain rfl : u = Value.bool b := ry
    have pl : plainIs v (.bool b) = true := by cases x <;> first | (cases rx; rfl) | (obtain ⟨t, rfl⟩ := rx; rfl)
    by_cases e : x = .bl b
    · subst e
      obtain rfl : v = Value.bool b := rx
      exact wpAny_is_self rfl ⟨.bl true, H, I, rfl, by simpa using q⟩
    · have ne : v ≠ Value.bool b := fun z => by
        subst z
        exact e (rx.inj (y := .bl b) rfl)
      exact wpAny_is_other pl ne ⟨.bl false, H, I, rfl, by simpa [e] using q⟩
theorem op_isnS {X : Cx} : OpR X (compareOp .IsNot) (rIsS true) := by
  intro pins s σ H x y v u Q I rx ry h
  obtain ⟨h, q⟩ := h
  rcases h with rfl | ⟨b, rfl⟩
  · exact op_notN pins s σ H x _ v u Q I rx ry ⟨rfl, q⟩
  · obtain rfl : u = Value.bool b := ry
    have pl : plainIs v (.bool b) = true := by cases x <;> first | (cases rx; rfl) | (obtain ⟨t, rfl⟩ := rx; rfl)
    by_cases e : x = .bl b
    · subst e
      obtain rfl : v = Value.bool b := rx
      exact wpAny_isNot_self rfl ⟨.bl false, H, I, rfl, by simpa using q⟩
    · have ne : v ≠ Value.bool b := fun z => by
        subst z
        exact e (rx.inj (y := .bl b) rfl)
      exact wpAny_isNot_other pl ne ⟨.bl true, H, I, rfl, by simpa [e] using q⟩
theorem Rp.scalar {K : PySem.W.Frag} {F H : Hp} {x y : V} {a b : T} {z : Bool} (lx : Lk K F H x a) (ly : Lk K F H y b) (e : isT a b = some z) : (y = .non ∨ ∃ c, y = .bl c) ∧ decide (x = y) = z := by
  have nl : ∀ {v : V} {d : T}, Lk K F H v d → (v = .non → d = .non) ∧ ∀ c, v = .bl c → d = .bl c := fun {v d} l => by
    refine ⟨fun q => ?_, fun c q => ?_⟩
    · subst q
      rcases l with l | ⟨p, q, _⟩
      · cases l; rfl
      · cases q
    · subst q
      rcases l with l | ⟨p, q, _⟩
      · cases l; rfl
      · cases q
  unfold isT at e
  split at e
  · cases e
    rw [lx.non, ly.non]
    exact ⟨.inl rfl, by decide⟩
  · rename_i hn
    cases e
    rw [ly.non]
    refine ⟨.inl rfl, decide_eq_false fun q => hn ((nl lx).1 q)⟩
  · cases e
    rw [lx.bl, ly.bl]
    refine ⟨.inr ⟨_, rfl⟩, ?_⟩
    rename_i p q
    by_cases h : p = q
    · subst h; simp
    · rw [decide_eq_false h]; exact decide_eq_false fun z => h (V.bl.inj z)
  · rename_i hn
    cases e
    rw [ly.bl]
    refine ⟨.inr ⟨_, rfl⟩, decide_eq_false fun q => hn _ ((nl lx).2 _ q)⟩
  · cases e
theorem s_is {K : PySem.W.Frag} : R2S K (rIsS false) isG := by
  intro x y a b res F H Q e s lx ly c
  unfold isG at e
  cases q : isT a b with
  | none => rw [q] at e; cases e
  | some z =>
    rw [q] at e
    cases e
    obtain ⟨h1, h2⟩ := Rp.scalar lx ly q
    refine ⟨h1, ?_⟩
    rw [h2]
    exact here s (.bl _) c
theorem s_isn {K : PySem.W.Frag} : R2S K (rIsS true) isnG := by
  intro x y a b res F H Q e s lx ly c
  unfold isnG at e
  cases q : isT a b with
  | none => rw [q] at e; cases e
  | some z =>
    rw [q] at e
    cases e
    obtain ⟨h1, h2⟩ := Rp.scalar lx ly q
    refine ⟨h1, ?_⟩
    rw [h2]
    exact here s (.bl _) c
end TR

namespace TR
open PySem L2

/-! ### keys of dicts -/
def keyOf : T → Option Key
  | .int i => some (.inl i)
  | .str x => some (.inr x)
  | _ => none
theorem keyOf_eq {d : T} {k : Key} (h : keyOf d = some k) : d = keyT k := by
  cases d <;> simp only [keyOf, Option.some.injEq, reduceCtorEq] at h <;> subst h <;> rfl
def keysOfA : List T → Option (List Key)
  | [] => some []
  | d :: r => match keyOf d, keysOfA r with
    | some k, some ks => some (k :: ks)
    | _, _ => none
def keysOf : T → Option (List Key)
  | .tup ds => keysOfA ds
  | _ => none
theorem keysOfA_eq : ∀ {ds : List T} {ks : List Key}, keysOfA ds = some ks → ds = ks.map keyT
  | [], ks, h => by cases h; rfl
  | d :: r, ks, h => by
    unfold keysOfA at h
    split at h
    · rename_i k ks' h1 h2
      cases h
      rw [keyOf_eq h1, keysOfA_eq h2]
      rfl
    · cases h
theorem keysOf_eq {d : T} {ks : List Key} (h : keysOf d = some ks) : d = keysT ks := by
  cases d with
  | tup ds => exact congrArg T.tup (keysOfA_eq h)
  | _ => cases h
theorem eqv_keyT : ∀ a b : Key, (keyT a).eqv (keyT b) = decide (a = b)
  | .inl i, .inl j => by
    show (i == j) = _
    by_cases h : i = j
    · subst h; simp
    · have : ¬ (Sum.inl i : Key) = .inl j := fun e => h (Sum.inl.inj e)
      rw [decide_eq_false this]; exact beq_eq_false_iff_ne.mpr h
  | .inl i, .inr j => rfl
  | .inr i, .inl j => rfl
  | .inr i, .inr j => by
    show (i == j) = _
    by_cases h : i = j
    · subst h; simp
    · have : ¬ (Sum.inr i : Key) = .inr j := fun e => h (Sum.inr.inj e)
      rw [decide_eq_false this]; exact beq_eq_false_iff_ne.mpr h
theorem eqv_keysA : ∀ a b : List Key, eqvA (a.map keyT) (b.map keyT) = decide (a = b)
  | [], [] => rfl
  | [], _ :: _ => rfl
  | _ :: _, [] => rfl
  | x :: xs, y :: ys => by
    show ((keyT x).eqv (keyT y) && eqvA (xs.map keyT) (ys.map keyT)) = _
    rw [eqv_keyT, eqv_keysA]
    by_cases h : x = y <;> by_cases h2 : xs = ys <;> simp [h, h2]
theorem eqv_keysT (a b : List Key) : (keysT a).eqv (keysT b) = decide (a = b) := eqv_keysA a b
def lookT (kvs : List (T × T)) (k : T) : Option T := (kvs.find? fun kv => kv.1.eqv k).map (·.2)
def putT (kvs : List (T × T)) (k v : T) : List (T × T) :=
  if (kvs.any fun kv => kv.1.eqv k) = true then kvs.map (fun kv => if kv.1.eqv k = true then (kv.1, v) else kv) else kvs ++ [(k, v)]
section
variable {K : PySem.W.Frag} {F : Hp}
theorem RpK.look {k : Key} : ∀ {kvs : List (Key × V)} {ds : List (T × T)}, RpK K F kvs ds →
    (∀ d, lookT ds (keyT k) = some d → ∃ v, valV kvs k = some v ∧ Rp K F v d) ∧ (lookT ds (keyT k) = none → valV kvs k = none)
  | _, _, .nil => ⟨fun d e => by simp [lookT] at e, fun _ => rfl⟩
  | _, _, .cons (k := k') (v := v) (vs := vs) (d := d) (ds := ds) a b => by
    have ih := RpK.look (k := k) b
    by_cases h : k' = k
    · subst h
      have e0 : (keyT k').eqv (keyT k') = true := by rw [eqv_keyT]; simp
      refine ⟨fun d' e => ?_, fun e => ?_⟩
      · simp only [lookT, List.find?_cons, e0, Option.map_some, Option.some.injEq] at e
        subst e
        exact ⟨v, valV_pos rfl, a⟩
      · simp only [lookT, List.find?_cons, e0, Option.map_some, reduceCtorEq] at e
    · have e0 : (keyT k').eqv (keyT k) = false := by rw [eqv_keyT]; simp [h]
      have e1 : lookT ((keyT k', d) :: ds) (keyT k) = lookT ds (keyT k) := by simp only [lookT, List.find?_cons, e0]
      rw [e1, valV_neg (p := (k', v)) h]
      exact ih
theorem RpT.look {k : List Key} : ∀ {kvs : List (List Key × V)} {ds : List (T × T)}, RpT K F kvs ds →
    (∀ d, lookT ds (keysT k) = some d → ∃ v, valV kvs k = some v ∧ Rp K F v d) ∧ (lookT ds (keysT k) = none → valV kvs k = none)
  | _, _, .nil => ⟨fun d e => by simp [lookT] at e, fun _ => rfl⟩
  | _, _, .cons (k := k') (v := v) (vs := vs) (d := d) (ds := ds) a b => by
    have ih := RpT.look (k := k) b
    by_cases h : k' = k
    · subst h
      have e0 : (keysT k').eqv (keysT k') = true := by rw [eqv_keysT]; simp
      refine ⟨fun d' e => ?_, fun e => ?_⟩
      · simp only [lookT, List.find?_cons, e0, Option.map_some, Option.some.injEq] at e
        subst e
        exact ⟨v, valV_pos rfl, a⟩
      · simp only [lookT, List.find?_cons, e0, Option.map_some, reduceCtorEq] at e
    · have e0 : (keysT k').eqv (keysT k) = false := by rw [eqv_keysT]; simp [h]
      have e1 : lookT ((keysT k', d) :: ds) (keysT k) = lookT ds (keysT k) := by simp only [lookT, List.find?_cons, e0]
      rw [e1, valV_neg (p := (k', v)) h]
      exact ih
theorem RpK.any {k : Key} : ∀ {kvs : List (Key × V)} {ds : List (T × T)}, RpK K F kvs ds → (ds.any fun kv => kv.1.eqv (keyT k)) = kvs.any fun kv => decide (kv.1 = k)
  | _, _, .nil => rfl
  | _, _, .cons (k := k') a b => by
    rw [List.any_cons, List.any_cons, RpK.any b, eqv_keyT]
theorem RpT.any {k : List Key} : ∀ {kvs : List (List Key × V)} {ds : List (T × T)}, RpT K F kvs ds → (ds.any fun kv => kv.1.eqv (keysT k)) = kvs.any fun kv => decide (kv.1 = k)
  | _, _, .nil => rfl
  | _, _, .cons (k := k') a b => by
    rw [List.any_cons, List.any_cons, RpT.any b, eqv_keysT]
theorem RpK.map {k : Key} {v : V} {d : T} (r : Rp K F v d) : ∀ {kvs : List (Key × V)} {ds : List (T × T)}, RpK K F kvs ds →
    RpK K F (kvs.map fun kv => if kv.1 = k then (kv.1, v) else kv) (ds.map fun kv => if kv.1.eqv (keyT k) = true then (kv.1, d) else kv)
  | _, _, .nil => .nil
  | _, _, .cons (k := k') (v := v') (d := d') a b => by
    rw [List.map_cons, List.map_cons]
    by_cases h : k' = k
    · have e0 : (keyT k').eqv (keyT k) = true := by rw [eqv_keyT]; simp [h]
      rw [if_pos h, if_pos e0]
      exact .cons r (RpK.map r b)
    · have e0 : ¬ (keyT k').eqv (keyT k) = true := by rw [eqv_keyT]; simp [h]
      rw [if_neg h, if_neg e0]
      exact .cons a (RpK.map r b)
theorem RpT.map {k : List Key} {v : V} {d : T} (r : Rp K F v d) : ∀ {kvs : List (List Key × V)} {ds : List (T × T)}, RpT K F kvs ds →
    RpT K F (kvs.map fun kv => if kv.1 = k then (kv.1, v) else kv) (ds.map fun kv => if kv.1.eqv (keysT k) = true then (kv.1, d) else kv)
  | _, _, .nil => .nil
  | _, _, .cons (k := k') (v := v') (d := d') a b => by
    rw [List.map_cons, List.map_cons]
    by_cases h : k' = k
    · have e0 : (keysT k').eqv (keysT k) = true := by rw [eqv_keysT]; simp [h]
      rw [if_pos h, if_pos e0]
      exact .cons r (RpT.map r b)
    · have e0 : ¬ (keysT k').eqv (keysT k) = true := by rw [eqv_keysT]; simp [h]
      rw [if_neg h, if_neg e0]
      exact .cons a (RpT.map r b)
theorem RpK.append : ∀ {kvs lvs : List (Key × V)} {ds es : List (T × T)}, RpK K F kvs ds → RpK K F lvs es → RpK K F (kvs ++ lvs) (ds ++ es)
  | _, _, _, _, .nil, h => h
  | _, _, _, _, .cons a b, h => .cons a (RpK.append b h)
theorem RpT.append : ∀ {kvs lvs : List (List Key × V)} {ds es : List (T × T)}, RpT K F kvs ds → RpT K F lvs es → RpT K F (kvs ++ lvs) (ds ++ es)
  | _, _, _, _, .nil, h => h
  | _, _, _, _, .cons a b, h => .cons a (RpT.append b h)
theorem RpK.put {k : Key} {v : V} {d : T} (r : Rp K F v d) {kvs : List (Key × V)} {ds : List (T × T)} (a : RpK K F kvs ds) : RpK K F (putK kvs k v) (putT ds (keyT k) d) := by
  unfold putK putT
  rw [a.any]
  split
  · exact a.map r
  · exact a.append (.cons r .nil)
theorem RpT.put {k : List Key} {v : V} {d : T} (r : Rp K F v d) {kvs : List (List Key × V)} {ds : List (T × T)} (a : RpT K F kvs ds) : RpT K F (putK kvs k v) (putT ds (keysT k) d) := by
  unfold putK putT
  rw [a.any]
  split
  · exact a.map r
  · exact a.append (.cons r .nil)
theorem RpK.length : ∀ {kvs : List (Key × V)} {ds : List (T × T)}, RpK K F kvs ds → kvs.length = ds.length
  | _, _, .nil => rfl
  | _, _, .cons _ b => congrArg Nat.succ b.length
theorem RpT.length : ∀ {kvs : List (List Key × V)} {ds : List (T × T)}, RpT K F kvs ds → kvs.length = ds.length
  | _, _, .nil => rfl
  | _, _, .cons _ b => congrArg Nat.succ b.length
theorem RpA.keys : ∀ {ks : List Key} {vs : List V}, RpA K F vs (ks.map keyT) → vs = ks.map kV
  | [], _, a => by cases a; rfl
  | k :: r, _, a => by
    cases a with
    | cons h t =>
      rw [RpA.keys t]
      cases k with
      | inl i => cases h; rfl
      | inr x => cases h; rfl
end
/-- a dict asked for a key -/
theorem dget_k {K : PySem.W.Frag} {F H : Hp} {x y : V} {k : T} {ds : List (T × T)} {q : Key} (s : Same F H) (lx : Lk K F H x (.dic ds)) (ly : Lk K F H y k) (hk : keyOf k = some q) :
    ∃ a o, x = .ref a ∧ DGet H a y o ∧ (∀ d, lookT ds k = some d → ∃ v, o = some v ∧ Rp K F v d) ∧ (lookT ds k = none → o = none) := by
  have ek := keyOf_eq hk
  subst ek
  obtain ⟨a, kvs, e1, e2, r⟩ := lx.dic s
  have ey : y = kV q := by
    cases q with
    | inl i => exact ly.int
    | inr x => exact ly.str
  exact ⟨a, valV kvs q, e1, .inl ⟨kvs, q, e2, ey, rfl⟩, fun d e => r.look.1 d e, fun e => r.look.2 e⟩
theorem dget_t {K : PySem.W.Frag} {F H : Hp} {x y : V} {k : T} {ds : List (T × T)} {q : List Key} (s : Same F H) (lx : Lk K F H x (.dit ds)) (ly : Lk K F H y k) (hk : keysOf k = some q) :
    ∃ a o, x = .ref a ∧ DGet H a y o ∧ (∀ d, lookT ds k = some d → ∃ v, o = some v ∧ Rp K F v d) ∧ (lookT ds k = none → o = none) := by
  have ek := keysOf_eq hk
  subst ek
  obtain ⟨a, kvs, e1, e2, r⟩ := lx.dit s
  obtain ⟨b, vs, h1, h2, ra⟩ := ly.tup s
  rw [ra.keys] at h2
  exact ⟨a, valV kvs q, e1, .inr ⟨kvs, q, b, .inl e2, h1, h2, rfl⟩, fun d e => r.look.1 d e, fun e => r.look.2 e⟩
/-- what a dict says of a key; none: the key doesn't fit -/
def askT (x k : T) : Option (Option T) := match x with
  | .dic ds => if (keyOf k).isSome then some (lookT ds k) else none
  | .dit ds => if (keysOf k).isSome then some (lookT ds k) else none
  | _ => none
theorem dget_of {K : PySem.W.Frag} {F H : Hp} {x y : V} {a k : T} {o : Option T} (s : Same F H) (lx : Lk K F H x a) (ly : Lk K F H y k) (h : askT a k = some o) :
    ∃ p w, x = .ref p ∧ DGet H p y w ∧ (∀ d, o = some d → ∃ v, w = some v ∧ Rp K F v d) ∧ (o = none → w = none) := by
  unfold askT at h
  split at h
  · split at h
    · rename_i hs
      cases h
      obtain ⟨q, hq⟩ := Option.isSome_iff_exists.mp hs
      exact dget_k s lx ly hq
    · cases h
  · split at h
    · rename_i hs
      cases h
      obtain ⟨q, hq⟩ := Option.isSome_iff_exists.mp hs
      exact dget_t s lx ly hq
    · cases h
  · cases h
end TR

namespace TR
open PySem L2

/-! ### in -/
def T.flat : T → Bool
  | .non => true
  | .bl _ => true
  | .int _ => true
  | .str _ => true
  | _ => false
def vOf : T → V
  | .non => .non
  | .bl b => .bl b
  | .int i => .int i
  | .str x => .str x
  | _ => .non
section
variable {K : PySem.W.Frag} {F H : Hp}
theorem Lk.flat {v : V} {d : T} (l : Lk K F H v d) (h : d.flat = true) : v = vOf d ∧ flatV v = true := by
  cases d with
  | non => have e := l.non; subst e; exact ⟨rfl, rfl⟩
  | bl b => have e := l.bl; subst e; exact ⟨rfl, rfl⟩
  | int b => have e := l.int; subst e; exact ⟨rfl, rfl⟩
  | str b => have e := l.str; subst e; exact ⟨rfl, rfl⟩
  | _ => cases h
theorem RpA.flat : ∀ {vs : List V} {ds : List T}, RpA K F vs ds → ds.all T.flat = true → vs = ds.map vOf ∧ vs.all flatV = true
  | _, _, .nil, _ => ⟨rfl, rfl⟩
  | _, _, .cons (v := v) (d := d) a b, h => by
    rw [List.all_cons, Bool.and_eq_true] at h
    obtain ⟨e1, e2⟩ := Lk.flat (H := F) (.inl a) h.1
    obtain ⟨e3, e4⟩ := RpA.flat b h.2
    subst e1
    rw [e3] at e4 ⊢
    exact ⟨rfl, by rw [List.all_cons, e2, e4]; rfl⟩
theorem eqV_flat {a b : T} (ha : a.flat = true) (hb : b.flat = true) : eqV (vOf a) (vOf b) = a.eqv b := by
  cases a <;> cases b <;> first | rfl | (cases ha; done) | (cases hb; done)
theorem inV_flat {a : T} (ha : a.flat = true) : ∀ {ds : List T}, ds.all T.flat = true → inV (vOf a) (ds.map vOf) = ds.any fun z => z.eqv a
  | [], _ => rfl
  | d :: r, h => by
    rw [List.all_cons, Bool.and_eq_true] at h
    have ih := inV_flat ha h.2
    unfold inV at ih ⊢
    rw [List.map_cons, List.any_cons, List.any_cons, ih, eqV_flat h.1 ha]
end
theorem toDA_any {a : T} : ∀ ds : List T, ((toDA ds).any fun z => PyData.eqv z a.toD) = ds.any fun z => z.eqv a
  | [] => rfl
  | d :: r => by
    show (PyData.eqv d.toD a.toD || (toDA r).any _) = _
    rw [toDA_any r, eqv_toD]
    rfl
def inT (a b : T) : Option Bool := match b with
  | .lst ds => if a.shp && b.shp then some (ds.any fun z => z.eqv a) else none
  | .tup ds => if a.flat && ds.all T.flat then some (ds.any fun z => z.eqv a) else none
  | .dic _ => (askT b a).map Option.isSome
  | .dit _ => (askT b a).map Option.isSome
  | _ => none
def inG (a b : T) : Option R := (inT a b).map rb
def ninG (a b : T) : Option R := (inT a b).map fun z => rb (!z)
def rDIn (neg : Bool) : R2 := fun y x H Q => ∃ a o, x = .ref a ∧ DGet H a y o ∧ Q (.bl (if neg then !o.isSome else o.isSome)) H
def rInG (K : PySem.W.Frag) : R2 := fun x y H Q => rInD K x y H Q ∨ rIn K false x y H Q ∨ rDIn false x y H Q
def rNinG (K : PySem.W.Frag) : R2 := fun x y H Q => rNotInD K x y H Q ∨ rIn K true x y H Q ∨ rDIn true x y H Q
theorem op_dIn {X : Cx} (hu : X.A.units + 1 < cLine) : OpR X (compareOp .In) (rDIn false) := by
  intro pins s σ H x y v u Q I rx ry h
  obtain ⟨a, o, rfl, g, q⟩ := h
  obtain rfl : u = Value.ref a := ry
  exact d_in hu I g rx fun s' I' => ⟨.bl o.isSome, H, I', rfl, q⟩
theorem op_dNin {X : Cx} (hu : X.A.units + 1 < cLine) : OpR X (compareOp .NotIn) (rDIn true) := by
  intro pins s σ H x y v u Q I rx ry h
  obtain ⟨a, o, rfl, g, q⟩ := h
  obtain rfl : u = Value.ref a := ry
  exact d_notIn hu I g rx fun s' I' => ⟨.bl (!o.isSome), H, I', rfl, q⟩
theorem op_inG {X : Cx} (hu : X.A.units + 65 < cLine) : OpR X (compareOp .In) (rInG X.K) := OpR.or (op_inD hu) (OpR.or op_in_seq (op_dIn (by omega)))
theorem op_ninG {X : Cx} (hu : X.A.units + 65 < cLine) : OpR X (compareOp .NotIn) (rNinG X.K) := OpR.or (op_notInD hu) (OpR.or op_notIn_seq (op_dNin (by omega)))
theorem s_inDict {K : PySem.W.Frag} {x y : V} {a b : T} {z : Bool} {F H : Hp} {A B : Prop} (e : (askT b a).map Option.isSome = some z) (s : Same F H) (lx : Lk K F H x a) (ly : Lk K F H y b) :
    A ∨ B ∨ (∃ a o, y = .ref a ∧ DGet H a x o ∧ o.isSome = z) := by
  obtain ⟨o, q, rfl⟩ := Option.map_eq_some_iff.mp e
  obtain ⟨p, w, h1, h2, h3, h4⟩ := dget_of s ly lx q
  refine .inr (.inr ⟨p, w, h1, h2, ?_⟩)
  cases o with
  | none => rw [h4 rfl]; rfl
  | some d =>
    obtain ⟨v, e, _⟩ := h3 d rfl
    rw [e]
    rfl
theorem s_inB {K : PySem.W.Frag} {x y : V} {a b : T} {z : Bool} {F H : Hp} (e : inT a b = some z) (s : Same F H) (lx : Lk K F H x a) (ly : Lk K F H y b) :
    (∃ d ds, Dp K H x d ∧ Dp K H y (.list ds) ∧ SeqAt.shaped d = true ∧ SeqAt.shaped (.list ds) = true ∧ (ds.any fun z => PyData.eqv z d) = z) ∨
    (∃ p xs, y = .ref p ∧ (SqL K H p xs ∨ SqT K H p xs) ∧ flatV x = true ∧ xs.all flatV = true ∧ inV x xs = z) ∨ (∃ a o, y = .ref a ∧ DGet H a x o ∧ o.isSome = z) := by
  unfold inT at e
  split at e
  · split at e
    · rename_i ds h
      cases e
      rw [Bool.and_eq_true] at h
      exact .inl ⟨a.toD, toDA ds, lx.dp s (shp_lay h.1), ly.dp s (shp_lay h.2), shp_ok h.1, shp_ok h.2, toDA_any ds⟩
    · cases e
  · split at e
    · rename_i ds h
      cases e
      rw [Bool.and_eq_true] at h
      obtain ⟨p, vs, rfl, hp, ap⟩ := ly.tup s
      obtain ⟨e1, e2⟩ := lx.flat h.1
      obtain ⟨e3, e4⟩ := ap.flat h.2
      refine .inr (.inl ⟨p, vs, rfl, .inr (SqT.of hp), e2, e4, ?_⟩)
      rw [e1, e3]
      exact inV_flat h.1 h.2
    · cases e
  · exact s_inDict e s lx ly
  · exact s_inDict e s lx ly
  · cases e
theorem s_in {K : PySem.W.Frag} : R2S K (rInG K) inG := by
  intro x y a b res F H Q e s lx ly c
  unfold inG at e
  cases q : inT a b with
  | none => rw [q] at e; cases e
  | some z =>
    rw [q] at e
    cases e
    rcases s_inB q s lx ly with ⟨d, ds, h1, h2, h3, h4, h5⟩ | ⟨p, xs, h1, h2, h3, h4, h5⟩ | ⟨p, o, h1, h2, h3⟩
    · exact .inl ⟨d, ds, h1, h2, h3, h4, by rw [h5]; exact here s (.bl _) c⟩
    · exact .inr (.inl ⟨p, xs, h1, h2, h3, h4, by rw [if_neg Bool.false_ne_true, h5]; exact here s (.bl _) c⟩)
    · exact .inr (.inr ⟨p, o, h1, h2, by rw [if_neg Bool.false_ne_true, h3]; exact here s (.bl _) c⟩)
theorem s_nin {K : PySem.W.Frag} : R2S K (rNinG K) ninG := by
  intro x y a b res F H Q e s lx ly c
  unfold ninG at e
  cases q : inT a b with
  | none => rw [q] at e; cases e
  | some z =>
    rw [q] at e
    cases e
    rcases s_inB q s lx ly with ⟨d, ds, h1, h2, h3, h4, h5⟩ | ⟨p, xs, h1, h2, h3, h4, h5⟩ | ⟨p, o, h1, h2, h3⟩
    · exact .inl ⟨d, ds, h1, h2, h3, h4, by rw [h5]; exact here s (.bl _) c⟩
    · exact .inr (.inl ⟨p, xs, h1, h2, h3, h4, by rw [if_pos rfl, h5]; exact here s (.bl _) c⟩)
    · exact .inr (.inr ⟨p, o, h1, h2, by rw [if_pos rfl, h3]; exact here s (.bl _) c⟩)

/-! ### items -/
def ixT (a b : T) : Option T := match a, b with
  | .lst ds, .int i => atI ds i
  | .frl ds, .int i => atI ds i
  | .tup ds, .int i => atI ds i
  | .str x, .int i => if x.length ≤ sizeLine then (atI x.cps.toList i).map fun c => .str ⟨#[c]⟩ else none
  | .dic _, k => (askT a k).bind id
  | .dit _, k => (askT a k).bind id
  | _, _ => none
def ixG (a b : T) : Option R := (ixT a b).map fun d => ⟨d, false⟩
def rIxD : R2 := fun x y H Q => ∃ a v, x = .ref a ∧ DGet H a y (some v) ∧ Q v H
theorem IxR.or {X : Cx} {r r' : R2} (h : IxR X r) (h' : IxR X r') : IxR X (fun x y H Q => r x y H Q ∨ r' x y H Q) := by
  intro value slice pins s σ H x y v u Q I rx ry q hs
  rcases q with q | q
  · exact h value slice pins s σ H x y v u Q I rx ry q hs
  · exact h' value slice pins s σ H x y v u Q I rx ry q hs
theorem ix_dict {X : Cx} (hu : X.A.units + 1 < cLine) : IxR X rIxD := by
  intro value slice pins s σ H x y v u Q I rx ry h hs
  obtain ⟨a, w, rfl, g, q⟩ := h
  obtain rfl : v = Value.ref a := rx
  exact PyProof.Rows.tail_any (dict_typeIs I g) PySem.F.slot_dict_getitem.lookup (d_getItem hu I g ry fun w' s' I' r => ⟨w, H, I', r, q⟩) hs
def rIxG (K : PySem.W.Frag) : R2 := fun x y H Q => rIxL K x y H Q ∨ rIxT K x y H Q ∨ rIxS x y H Q ∨ rIxD x y H Q
theorem ix_G {X : Cx} (hu : X.A.units + 1 < cLine) : IxR X (rIxG X.K) := IxR.or ix_list (IxR.or ix_tup (IxR.or ix_str (ix_dict hu)))
theorem RpA.atI {K : PySem.W.Frag} {F : Hp} {vs : List V} {ds : List T} {i : Int} {d : T} (a : RpA K F vs ds) (h : L2.atI ds i = some d) : ∃ v, L2.atI vs i = some v ∧ Rp K F v d := by
  unfold L2.atI at h ⊢
  rw [a.length]
  cases e : ixN ds.length i with
  | none => rw [e] at h; cases h
  | some j =>
    rw [e] at h
    exact a.get h
theorem s_ix {K : PySem.W.Frag} : R2S K (rIxG K) ixG := by
  intro x y a b res F H Q e s lx ly c
  unfold ixG at e
  cases q : ixT a b with
  | none => rw [q] at e; cases e
  | some z =>
    rw [q] at e
    cases e
    unfold ixT at q
    split at q
    · rename_i ds i
      obtain ⟨p, vs, rfl, hp, ap⟩ := lx.lst s
      rw [ly.int]
      obtain ⟨v, h1, h2⟩ := ap.atI q
      exact .inl ⟨p, vs, i, v, rfl, rfl, SqL.of hp, h1, here s h2 c⟩
    · rename_i ds i
      obtain ⟨p, vs, rfl, hp, ap⟩ := lx.frl s
      rw [ly.int]
      obtain ⟨v, h1, h2⟩ := ap.atI q
      exact .inl ⟨p, vs, i, v, rfl, rfl, hp, h1, here s h2 c⟩
    · rename_i ds i
      obtain ⟨p, vs, rfl, hp, ap⟩ := lx.tup s
      rw [ly.int]
      obtain ⟨v, h1, h2⟩ := ap.atI q
      exact .inr (.inl ⟨p, vs, i, v, rfl, rfl, SqT.of hp, h1, here s h2 c⟩)
    · rename_i x' i
      split at q
      · rename_i hz
        rw [lx.str, ly.int]
        cases e1 : L2.atI x'.cps.toList i with
        | none => rw [e1] at q; cases q
        | some ch =>
          rw [e1] at q
          cases q
          exact .inr (.inr (.inl ⟨x', i, ch, rfl, rfl, hz, e1, here s (.str _) c⟩))
      · cases q
    all_goals first
      | (cases e1 : askT _ b with
         | none => rw [e1] at q; cases q
         | some o =>
           rw [e1] at q
           have q' : o = some z := q
           subst q'
           obtain ⟨p, w, h1, h2, h3, _⟩ := dget_of s lx ly e1
           obtain ⟨v, e, r⟩ := h3 z rfl
           rw [e] at h2
           exact .inr (.inr (.inr ⟨p, v, h1, h2, here s r c⟩)))
      | cases q
/-! ### slices -/
def cutT (ds : List T) (lo hi : Option Int) : List T := (ds.drop (HT.sIx ds.length 0 lo)).take (HT.sIx ds.length ds.length hi - HT.sIx ds.length 0 lo)
def slG (a : T) (lo hi : Option Int) : Option R := match a with
  | .lst ds => some ⟨.lst (cutT ds lo hi), true⟩
  | .frl ds => some ⟨.lst (cutT ds lo hi), true⟩
  | .tup ds => some ⟨.tup (cutT ds lo hi), false⟩
  | _ => none
def rSlG (K : PySem.W.Frag) : V → Option Int → Option Int → Hp → VK → Prop := fun x lo hi H Q => rSlL K x lo hi H Q ∨ rSlA K x lo hi H Q
theorem sl_G {X : Cx} : SlR X (rSlG X.K) := SlR.or sl_list sl_tupA
theorem RpA.cut {K : PySem.W.Frag} {F : Hp} {vs : List V} {ds : List T} (a : RpA K F vs ds) (lo hi : Option Int) : RpA K F (cutV vs lo hi) (cutT ds lo hi) := by
  unfold cutV cutT
  rw [a.length]
  exact (a.drop _).take _
theorem cut_whole {ds : List T} {lo hi : Option Int} (h : HT.sIx ds.length 0 lo = 0 ∧ HT.sIx ds.length ds.length hi = ds.length) : cutT ds lo hi = ds := by
  unfold cutT
  rw [h.1, h.2]
  simp
def R3S (K : PySem.W.Frag) (r : V → Option Int → Option Int → Hp → VK → Prop) (g : T → Option Int → Option Int → Option R) : Prop := ∀ (x : V) (a : T) (lo hi : Option Int) (res : R) (F H : Hp) (Q : VK), g a lo hi = some res → Same F H → Lk K F H x a →
  (∀ v H' F', Grow H F H' F' → RO K F' H' H v res → Q v H') → r x lo hi H Q
theorem s_sl {K : PySem.W.Frag} : R3S K (rSlG K) slG := by
  intro x a lo hi res F H Q e s lx c
  unfold slG at e
  split at e
  · cases e
    obtain ⟨p, vs, rfl, hp, ap⟩ := lx.lst s
    exact .inl ⟨p, vs, rfl, SqL.of hp, fun l hl => new_lst s hl (ap.cut lo hi) c⟩
  · cases e
    obtain ⟨p, vs, rfl, hp, ap⟩ := lx.frl s
    exact .inl ⟨p, vs, rfl, hp, fun l hl => new_lst s hl (ap.cut lo hi) c⟩
  · cases e
    obtain ⟨p, vs, rfl, hp, ap⟩ := lx.tup s
    refine .inr ⟨p, vs, rfl, SqT.of hp, fun h => ?_, fun _ l hl => new_tup s hl (ap.cut lo hi) c⟩
    rw [ap.length] at h
    rw [cut_whole h] at c
    rcases lx with r | ⟨_, _, o⟩
    · exact here s r c
    · exact o.elim
  · cases e
/-! ### truth -/
def truT : T → Option Bool
  | .non => some false
  | .bl b => some b
  | .int i => some (i != 0)
  | .str y => if y.length ≤ sizeLine then some ((y.length : Int) != 0) else none
  | .lst ds => some (!ds.isEmpty)
  | .frl ds => some (!ds.isEmpty)
  | .tup ds => some (!ds.isEmpty)
  | _ => none
theorem RpA.isEmpty {K : PySem.W.Frag} {F : Hp} {vs : List V} {ds : List T} (a : RpA K F vs ds) : vs.isEmpty = ds.isEmpty := by cases a <;> rfl
theorem s_tru {K : PySem.W.Frag} {x : V} {a : T} {z : Bool} {F H : Hp} (e : truT a = some z) (s : Same F H) (lx : Lk K F H x a) : TruV K x H z := by
  unfold truT at e
  split at e
  · cases e; rw [lx.non]; rfl
  · cases e; rw [lx.bl]; rfl
  · cases e; rw [lx.int]; rfl
  · split at e
    · cases e; rw [lx.str]; exact ⟨by assumption, rfl⟩
    · cases e
  · cases e
    obtain ⟨p, vs, rfl, hp, ap⟩ := lx.lst s
    exact .inl ⟨vs, SqL.of hp, by rw [ap.isEmpty]⟩
  · cases e
    obtain ⟨p, vs, rfl, hp, ap⟩ := lx.frl s
    exact .inl ⟨vs, hp, by rw [ap.isEmpty]⟩
  · cases e
    obtain ⟨p, vs, rfl, hp, ap⟩ := lx.tup s
    exact .inr (.inl ⟨vs, SqT.of hp, by rw [ap.isEmpty]⟩)
  · cases e
end TR

namespace TR
open PySem L2

structure EE (X : Cx) (e : Expr) (te : TE) (f : M R) : Prop where
  pe : PE X e te
  s : SE X.K te f
structure EV (X : Cx) (e : Expr) (te : TE) (f : M T) : Prop where
  pe : PE X e te
  s : SV X.K te f
structure EO (X : Cx) (e : Expr) (te : TE) (f : M (Sls → Option T)) : Prop where
  pe : PE X e te
  s : SO X.K te f
structure EB (X : Cx) (e : Expr) (tt : TT) (f : M Bool) : Prop where
  pe : PT X e tt
  s : SB X.K tt f
/-- an and, or within a test -/
structure EW (X : Cx) (e : Expr) (tt : TT) (f : M Bool) : Prop where
  pe : PW X e tt
  s : SB X.K tt f
section
variable {X : Cx} {e a b c : Expr} {te ta tb tc : TE} {pos : Pos}
theorem EE.v {f : M R} (h : EE X e te f) : EV X e te (fz f) := ⟨h.pe, h.s.fz⟩
theorem EV.o {f : M T} (h : EV X e te f) : EO X e te (ov f) := ⟨h.pe, h.s.ov⟩
theorem EV.ee {f : M T} (h : EV X e te f) : EE X e te (rv f) := ⟨h.pe, h.s.rv⟩
theorem EE.oo {f : M R} (h : EE X e te f) : EO X e te (ov (fz f)) := h.v.o
theorem EW.bb {tt : TT} {f : M Bool} (h : EW X e tt f) : EB X e tt f := ⟨h.pe.pt, h.s⟩

/-! ### names, constants -/
theorem v_var (i : Nat) {x : Str} (hN : X.N[i]? = some x := by rfl) (hv : Vis X.env.scope x := by first | exact Or.inl rfl | exact Or.inr (Or.inl rfl) | exact Or.inr (Or.inr rfl)) (hd : (x == ("__debug__" : Str)) = false := by decide)
    (hcd : (x == ("__classdict__" : Str)) = false := by decide) : EV X (.Name x pos) (tVar i) (vrd i) := ⟨pe_var hN hv hd hcd, sv_var⟩
theorem o_var (i : Nat) {x : Str} (hN : X.N[i]? = some x := by rfl) (hv : Vis X.env.scope x := by first | exact Or.inl rfl | exact Or.inr (Or.inl rfl) | exact Or.inr (Or.inr rfl)) (hd : (x == ("__debug__" : Str)) = false := by decide)
    (hcd : (x == ("__classdict__" : Str)) = false := by decide) : EO X (.Name x pos) (tVar i) (prdOk i) := ⟨pe_var hN hv hd hcd, so_var⟩
theorem v_int {i j} : EV X (.Constant (.int i) j pos) (tC (.int i)) (cst (.int i)) := ⟨pe_int, sv_c fun _ => .int i⟩
theorem v_bl {i j} : EV X (.Constant (.bool i) j pos) (tC (.bl i)) (cst (.bl i)) := ⟨pe_bl, sv_c fun _ => .bl i⟩
theorem v_non {j} : EV X (.Constant .none j pos) (tC .non) (cst .non) := ⟨pe_non, sv_c fun _ => .non⟩
theorem v_str {i j} : EV X (.Constant (.str i) j pos) (tC (.str i)) (cst (.str i)) := ⟨pe_str, sv_c fun _ => .str i⟩

/-! ### operators -/
def opE (g : T → T → Option R) (fa fb : M (Sls → Option T)) : M R := fun τ =>
  (fa τ).bind fun p => (fb p.2).bind fun q => (p.1 q.2).bind fun x => (q.1 q.2).bind fun y => (g x y).map fun r => (r, q.2)
theorem s_op {K : PySem.W.Frag} {r : R2} {g : T → T → Option R} {fa fb : M (Sls → Option T)} (hr : R2S K r g) (ha : SO K ta fa) (hb : SO K tb fb) : SE K (tOp r ta tb) (opE g fa fb) := by
  intro τ τ' res σ H F Q e k c
  unfold opE at e
  obtain ⟨p, h1, e⟩ := Option.bind_eq_some_iff.mp e
  obtain ⟨q, h2, e⟩ := Option.bind_eq_some_iff.mp e
  obtain ⟨x, h3, e⟩ := Option.bind_eq_some_iff.mp e
  obtain ⟨y, h4, e⟩ := Option.bind_eq_some_iff.mp e
  obtain ⟨z, h5, e⟩ := Option.map_eq_some_iff.mp e
  cases e
  refine ha τ p.2 p.1 σ H F _ h1 k fun v H1 F1 k1 s1 l1 => hb p.2 q.2 q.1 σ H1 F1 _ h2 k1 fun u H2 F2 k2 s2 l2 => ?_
  refine hr v u x y _ F2 H2 Q h5 k2.sub (l1 _ _ _ _ k2 s2 h3) (l2 _ _ _ _ k2 .refl h4) fun w H' F' g ro => ?_
  exact c w H' F' (k2.grow g) (s1.trans (s2.trans g.step)) ((ro.ok k2 g).back (s1.trans s2))
theorem e_op {op : Operator} {r : R2} {g : T → T → Option R} {fa fb : M (Sls → Option T)} (ho : OpR X (binaryOp op) r) (hr : R2S X.K r g) (ha : EO X a ta fa) (hb : EO X b tb fb) : EE X (.BinOp a op b pos) (tOp r ta tb) (opE g fa fb) :=
  ⟨pe_op ho ha.pe hb.pe, s_op hr ha.s hb.s⟩
theorem e_cmp {op : CmpOp} {r : R2} {g : T → T → Option R} {fa fb : M (Sls → Option T)} (ho : OpR X (compareOp op) r) (hr : R2S X.K r g) (ha : EO X a ta fa) (hb : EO X b tb fb) (hm : behindInMarks op b = false) :
    EE X (.Compare a [op] [b] pos) (tOp r ta tb) (opE g fa fb) := ⟨pe_cmpR ho ha.pe hb.pe hm, s_op hr ha.s hb.s⟩
theorem e_ix {r : R2} {g : T → T → Option R} {fa fb : M (Sls → Option T)} (ho : IxR X r) (hr : R2S X.K r g) (ha : EO X a ta fa) (hb : EO X b tb fb) (hp : PlainIx b) : EE X (.Subscript a b pos) (tOp r ta tb) (opE g fa fb) :=
  ⟨pe_ix ho ha.pe hb.pe hp, s_op hr ha.s hb.s⟩
/-- as a test -/
def bT (f : M R) : M Bool := fun τ => (f τ).bind fun p => match p.1.d with
  | .bl b => some (b, p.2)
  | _ => none
theorem s_test {K : PySem.W.Frag} {f : M R} (h : SE K te f) : SB K (tTest te) (bT f) := by
  intro τ τ' b σ H F Q e k c
  unfold bT at e
  obtain ⟨p, h1, e⟩ := Option.bind_eq_some_iff.mp e
  split at e
  · rename_i b' hb
    cases e
    refine h τ p.2 p.1 σ H F _ h1 k fun v H' F' k' s' q => ?_
    have hv : v = .bl b := by
      rcases q with ⟨_, q⟩ | ⟨_, q, rfl, _, _, _, o⟩
      · rw [hb] at q; cases q; rfl
      · rw [hb] at o; exact o.elim
    exact ⟨b, hv, c H' F' k' s'⟩
  · cases e
theorem b_cmp {op : CmpOp} {r : R2} {g : T → T → Option R} {fa fb : M (Sls → Option T)} (ho : OpR X (compareOp op) r) (hr : R2S X.K r g) (ha : EO X a ta fa) (hb : EO X b tb fb) (hm : behindInMarks op b = false) :
    EB X (.Compare a [op] [b] pos) (tTest (tOp r ta tb)) (bT (opE g fa fb)) := ⟨pt_cmpR ho ha.pe hb.pe hm, s_test (s_op hr ha.s hb.s)⟩
def trB (fa : M (Sls → Option T)) : M Bool := fun τ => (fa τ).bind fun p => (p.1 p.2).bind fun x => (truT x).map fun b => (b, p.2)
theorem b_tru {fa : M (Sls → Option T)} (ha : EO X a ta fa) (he : ∀ whole, isTrue a X.env whole = (do let v ← whole; standAt a.pos; holding [v] (truthy v))) :
    EB X a (fun σ H Q => ta σ H fun x H' => ∃ k, TruV X.K x H' k ∧ Q k H') (trB fa) := by
  refine ⟨pt_truth ha.pe he, ?_⟩
  intro τ τ' b σ H F Q e k c
  unfold trB at e
  obtain ⟨p, h1, e⟩ := Option.bind_eq_some_iff.mp e
  obtain ⟨x, h2, e⟩ := Option.bind_eq_some_iff.mp e
  obtain ⟨z, h3, e⟩ := Option.map_eq_some_iff.mp e
  cases e
  exact ha.s τ p.2 p.1 σ H F _ h1 k fun v H' F' k' s' l => ⟨_, s_tru h3 k'.sub (l _ _ _ _ k' .refl h2), c H' F' k' s'⟩
/-! ### and, or, not -/
def andB (f g : M Bool) : M Bool := fun τ => (f τ).bind fun p => if p.1 = true then g p.2 else some (false, p.2)
def orB (f g : M Bool) : M Bool := fun τ => (f τ).bind fun p => if p.1 = true then some (true, p.2) else g p.2
def notB (f : M Bool) : M Bool := fun τ => (f τ).map fun p => (!p.1, p.2)
variable {t u : TT} {f g : M Bool} {rest : List Expr}
theorem w_and1 (ha : EB X a t f) : EW X (.BoolOp .And [a] pos) t f := ⟨pw_and1 ha.pe, ha.s⟩
theorem w_or1 (ha : EB X a t f) : EW X (.BoolOp .Or [a] pos) t f := ⟨pw_or1 ha.pe, ha.s⟩
theorem w_and (ha : EB X a t f) (hb : EW X (.BoolOp .And (b :: rest) pos) u g) : EW X (.BoolOp .And (a :: b :: rest) pos) (tAnd t u) (andB f g) := by
  refine ⟨pw_and ha.pe hb.pe, ?_⟩
  intro τ τ' z σ H F Q e k c
  unfold andB at e
  obtain ⟨p, h1, e⟩ := Option.bind_eq_some_iff.mp e
  refine ha.s τ p.2 p.1 σ H F _ h1 k fun H' F' k' s' => ?_
  by_cases hp : p.1 = true
  · rw [if_pos hp] at e ⊢
    exact hb.s p.2 τ' z σ H' F' Q e k' fun H2 F2 k2 s2 => c H2 F2 k2 (s'.trans s2)
  · rw [if_neg hp] at e ⊢
    cases e
    exact c H' F' k' s'
theorem w_or (ha : EB X a t f) (hb : EW X (.BoolOp .Or (b :: rest) pos) u g) : EW X (.BoolOp .Or (a :: b :: rest) pos) (tOr t u) (orB f g) := by
  refine ⟨pw_or ha.pe hb.pe, ?_⟩
  intro τ τ' z σ H F Q e k c
  unfold orB at e
  obtain ⟨p, h1, e⟩ := Option.bind_eq_some_iff.mp e
  refine ha.s τ p.2 p.1 σ H F _ h1 k fun H' F' k' s' => ?_
  by_cases hp : p.1 = true
  · rw [if_pos hp] at e ⊢
    cases e
    exact c H' F' k' s'
  · rw [if_neg hp] at e ⊢
    exact hb.s p.2 τ' z σ H' F' Q e k' fun H2 F2 k2 s2 => c H2 F2 k2 (s'.trans s2)
theorem b_not (ha : EB X a t f) : EB X (.UnaryOp .Not a pos) (tNot t) (notB f) := by
  refine ⟨pt_not ha.pe, ?_⟩
  intro τ τ' z σ H F Q e k c
  unfold notB at e
  obtain ⟨p, h1, e⟩ := Option.map_eq_some_iff.mp e
  cases e
  exact ha.s τ p.2 p.1 σ H F _ h1 k c
/-- values, by truth -/
def andE (fa : M T) (fb : M R) : M R := fun τ => (fa τ).bind fun p => (truT p.1).bind fun z => if z = true then fb p.2 else some (⟨p.1, false⟩, p.2)
def orE (fa : M T) (fb : M R) : M R := fun τ => (fa τ).bind fun p => (truT p.1).bind fun z => if z = true then some (⟨p.1, false⟩, p.2) else fb p.2
def notE (fa : M (Sls → Option T)) : M R := fun τ => (fa τ).bind fun p => (p.1 p.2).bind fun x => (truT x).map fun b => (rb (!b), p.2)
theorem e_and {fa : M T} {fb : M R} (ha : EV X a ta fa) (hb : EE X (.BoolOp .And (b :: rest) pos) tb fb) : EE X (.BoolOp .And (a :: b :: rest) pos) (tAndT X.K ta tb) (andE fa fb) := by
  refine ⟨pe_andT ha.pe hb.pe, ?_⟩
  intro τ τ' r σ H F Q e k c
  unfold andE at e
  obtain ⟨p, h1, e⟩ := Option.bind_eq_some_iff.mp e
  obtain ⟨z, h2, e⟩ := Option.bind_eq_some_iff.mp e
  refine ha.s τ p.2 p.1 σ H F _ h1 k fun v H' F' k' s' q => ⟨z, s_tru h2 k'.sub (.inl q), ?_⟩
  cases z with
  | true =>
    rw [if_pos rfl] at e ⊢
    exact hb.s p.2 τ' r σ H' F' Q e k' fun v2 H2 F2 k2 s2 q2 => c v2 H2 F2 k2 (s'.trans s2) (q2.back s')
  | false =>
    rw [if_neg Bool.false_ne_true] at e ⊢
    cases e
    exact c v H' F' k' s' (.inl ⟨rfl, q⟩)
theorem e_or {fa : M T} {fb : M R} (ha : EV X a ta fa) (hb : EE X (.BoolOp .Or (b :: rest) pos) tb fb) : EE X (.BoolOp .Or (a :: b :: rest) pos) (tOrT X.K ta tb) (orE fa fb) := by
  refine ⟨pe_orT ha.pe hb.pe, ?_⟩
  intro τ τ' r σ H F Q e k c
  unfold orE at e
  obtain ⟨p, h1, e⟩ := Option.bind_eq_some_iff.mp e
  obtain ⟨z, h2, e⟩ := Option.bind_eq_some_iff.mp e
  refine ha.s τ p.2 p.1 σ H F _ h1 k fun v H' F' k' s' q => ⟨z, s_tru h2 k'.sub (.inl q), ?_⟩
  cases z with
  | true =>
    rw [if_pos rfl] at e ⊢
    cases e
    exact c v H' F' k' s' (.inl ⟨rfl, q⟩)
  | false =>
    rw [if_neg Bool.false_ne_true] at e ⊢
    exact hb.s p.2 τ' r σ H' F' Q e k' fun v2 H2 F2 k2 s2 q2 => c v2 H2 F2 k2 (s'.trans s2) (q2.back s')
theorem e_not {fa : M (Sls → Option T)} (ha : EO X a ta fa) : EE X (.UnaryOp .Not a pos) (tNotT X.K ta) (notE fa) := by
  refine ⟨pe_notT ha.pe, ?_⟩
  intro τ τ' r σ H F Q e k c
  unfold notE at e
  obtain ⟨p, h1, e⟩ := Option.bind_eq_some_iff.mp e
  obtain ⟨x, h2, e⟩ := Option.bind_eq_some_iff.mp e
  obtain ⟨z, h3, e⟩ := Option.map_eq_some_iff.mp e
  cases e
  exact ha.s τ p.2 p.1 σ H F _ h1 k fun v H' F' k' s' l => ⟨_, s_tru h3 k'.sub (l _ _ _ _ k' .refl h2), c _ H' F' k' s' (.inl ⟨rfl, .bl _⟩)⟩
/-- a if t else b -/
def ifE (t : M Bool) (f g : M R) : M R := fun τ => (t τ).bind fun p => if p.1 = true then f p.2 else g p.2
theorem e_if {t : TT} {ft : M Bool} {fa fb : M R} (hc : EB X c t ft) (ha : EE X a ta fa) (hb : EE X b tb fb) : EE X (.IfExp c a b pos) (tIf t ta tb) (ifE ft fa fb) := by
  refine ⟨pe_ifExp hc.pe ha.pe hb.pe, ?_⟩
  intro τ τ' r σ H F Q e k cc
  unfold ifE at e
  obtain ⟨p, h1, e⟩ := Option.bind_eq_some_iff.mp e
  refine hc.s τ p.2 p.1 σ H F _ h1 k fun H' F' k' s' => ?_
  by_cases hp : p.1 = true
  · rw [if_pos hp] at e ⊢
    exact ha.s p.2 τ' r σ H' F' Q e k' fun v2 H2 F2 k2 s2 q2 => cc v2 H2 F2 k2 (s'.trans s2) (q2.back s')
  · rw [if_neg hp] at e ⊢
    exact hb.s p.2 τ' r σ H' F' Q e k' fun v2 H2 F2 k2 s2 q2 => cc v2 H2 F2 k2 (s'.trans s2) (q2.back s')
/-! ### chains -/
def chE (g g' : T → T → Option R) (fa fb fc : M (Sls → Option T)) : M R := fun τ =>
  (fa τ).bind fun p => (fb p.2).bind fun q => (p.1 q.2).bind fun x => (q.1 q.2).bind fun y => (g x y).bind fun r => match r.d with
    | .bl true => (fc q.2).bind fun w => (q.1 w.2).bind fun y' => (w.1 w.2).bind fun z => (g' y' z).map fun r => (r, w.2)
    | .bl false => some (rb false, q.2)
    | _ => none
theorem RO.bl {K : PySem.W.Frag} {F' H' H : Hp} {v : V} {r : R} {b : Bool} (h : RO K F' H' H v r) (hb : r.d = .bl b) : v = .bl b := by
  rcases h with ⟨_, q⟩ | ⟨_, q, rfl, _, _, o⟩
  · rw [hb] at q; cases q; rfl
  · rw [hb] at o; exact o.elim
theorem s_chain {K : PySem.W.Frag} {r r' : R2} {g g' : T → T → Option R} {fa fb fc : M (Sls → Option T)} (hr : R2S K r g) (hr' : R2S K r' g') (ha : SO K ta fa) (hb : SO K tb fb) (hc : SO K tc fc) :
    SE K (tChain r r' ta tb tc) (chE g g' fa fb fc) := by
  intro τ τ' res σ H F Q e k c
  unfold chE at e
  obtain ⟨p, h1, e⟩ := Option.bind_eq_some_iff.mp e
  obtain ⟨q, h2, e⟩ := Option.bind_eq_some_iff.mp e
  obtain ⟨x, h3, e⟩ := Option.bind_eq_some_iff.mp e
  obtain ⟨y, h4, e⟩ := Option.bind_eq_some_iff.mp e
  obtain ⟨z, h5, e⟩ := Option.bind_eq_some_iff.mp e
  refine ha τ p.2 p.1 σ H F _ h1 k fun v H1 F1 k1 s1 l1 => hb p.2 q.2 q.1 σ H1 F1 _ h2 k1 fun u H2 F2 k2 s2 l2 => ?_
  refine hr v u x y z F2 H2 _ h5 k2.sub (l1 _ _ _ _ k2 s2 h3) (l2 _ _ _ _ k2 .refl h4) fun w H3 F3 g3 ro => ?_
  have k3 := k2.grow g3
  split at e
  · rename_i hz
    obtain ⟨w', h6, e⟩ := Option.bind_eq_some_iff.mp e
    obtain ⟨y', h7, e⟩ := Option.bind_eq_some_iff.mp e
    obtain ⟨z', h8, e⟩ := Option.bind_eq_some_iff.mp e
    obtain ⟨r2, h9, e⟩ := Option.map_eq_some_iff.mp e
    cases e
    refine ⟨true, ro.bl hz, ?_⟩
    rw [if_pos rfl]
    refine hc q.2 w'.2 w'.1 σ H3 F3 _ h6 k3 fun u' H4 F4 k4 s4 l4 => ?_
    refine hr' u u' y' z' _ F4 H4 Q h9 k4.sub (l2 _ _ _ _ k4 (g3.step.trans s4) h7) (l4 _ _ _ _ k4 .refl h8) fun v5 H5 F5 g5 ro5 => ?_
    have st := s1.trans (s2.trans (g3.step.trans s4))
    exact c v5 H5 F5 (k4.grow g5) (st.trans g5.step) ((ro5.ok k4 g5).back st)
  · rename_i hz
    cases e
    refine ⟨false, ro.bl hz, ?_⟩
    rw [if_neg Bool.false_ne_true]
    exact c _ H3 F3 k3 (s1.trans (s2.trans g3.step)) (.inl ⟨rfl, .bl false⟩)
  · cases e
theorem e_chain {op op' : CmpOp} {r r' : R2} {g g' : T → T → Option R} {fa fb fc : M (Sls → Option T)} (ho : OpR X (compareOp op) r) (hr : R2S X.K r g) (ho' : OpR X (compareOp op') r') (hr' : R2S X.K r' g')
    (ha : EO X a ta fa) (hb : EO X b tb fb) (hc : EO X c tc fc) (hm : lastMarks [op, op'] [b, c] = false := by with_unfolding_all rfl) : EE X (.Compare a [op, op'] [b, c] pos) (tChain r r' ta tb tc) (chE g g' fa fb fc) :=
  ⟨pe_chain ho ho' ha.pe hb.pe hc.pe hm, s_chain hr hr' ha.s hb.s hc.s⟩
theorem b_chain {op op' : CmpOp} {r r' : R2} {g g' : T → T → Option R} {fa fb fc : M (Sls → Option T)} (ho : OpR X (compareOp op) r) (hr : R2S X.K r g) (ho' : OpR X (compareOp op') r') (hr' : R2S X.K r' g')
    (ha : EO X a ta fa) (hb : EO X b tb fb) (hc : EO X c tc fc) (hm : lastMarks [op, op'] [b, c] = false := by with_unfolding_all rfl) : EB X (.Compare a [op, op'] [b, c] pos) (tTest (tChain r r' ta tb tc)) (bT (chE g g' fa fb fc)) :=
  ⟨pt_chain ho ho' ha.pe hb.pe hc.pe hm, s_test (s_chain hr hr' ha.s hb.s hc.s)⟩
/-! ### one operand -/
def unE (g : T → Option R) (fa : M (Sls → Option T)) : M R := fun τ => (fa τ).bind fun p => (p.1 p.2).bind fun x => (g x).map fun r => (r, p.2)
theorem s_un {K : PySem.W.Frag} {r : V → Hp → VK → Prop} {g : T → Option R} {fa : M (Sls → Option T)} (hr : R1S K r g) (ha : SO K ta fa) : SE K (tUn r ta) (unE g fa) := by
  intro τ τ' res σ H F Q e k c
  unfold unE at e
  obtain ⟨p, h1, e⟩ := Option.bind_eq_some_iff.mp e
  obtain ⟨x, h3, e⟩ := Option.bind_eq_some_iff.mp e
  obtain ⟨z, h5, e⟩ := Option.map_eq_some_iff.mp e
  cases e
  refine ha τ p.2 p.1 σ H F _ h1 k fun v H1 F1 k1 s1 l1 => hr v x _ F1 H1 Q h5 k1.sub (l1 _ _ _ _ k1 .refl h3) fun w H' F' g ro => ?_
  exact c w H' F' (k1.grow g) (s1.trans g.step) ((ro.ok k1 g).back s1)
theorem e_un {op : UnaryOp} {r : V → Hp → VK → Prop} {g : T → Option R} {fa : M (Sls → Option T)} (ho : UnR X (unaryOp op) r) (hr : R1S X.K r g) (ha : EO X a ta fa) : EE X (.UnaryOp op a pos) (tUn r ta) (unE g fa) := ⟨pe_un ho ha.pe, s_un hr ha.s⟩
def negG : T → Option R
  | .int i => some (ri (-i))
  | _ => none
theorem s_neg {K : PySem.W.Frag} : R1S K (rU fun i => .int (-i)) negG := by
  intro x a res F H Q e s lx c
  unfold negG at e
  split at e
  · cases e
    rw [lx.int]
    exact ⟨_, rfl, here s (.int _) c⟩
  · cases e
end
end TR

namespace TR
open PySem L2

/-! ### lists of arguments -/
def SAV (K : PySem.W.Frag) (ta : TA) (f : M (List T)) : Prop := ∀ (τ τ' : Sls) (ds : List T) (σ : L2.St) (H F : Hp) (Q : List V → Hp → Prop), f τ = some (ds, τ') → Ok K F τ σ H →
  (∀ vs H' F', Ok K F' τ' σ H' → Stp τ σ H F τ' σ H' F' → RpA K F' vs ds → Q vs H') → ta σ H Q
structure EAV (X : Cx) (es : List Expr) (ta : TA) (f : M (List T)) : Prop where
  pe : PA X es ta
  s : SAV X.K ta f
def nilV : M (List T) := fun τ => some ([], τ)
def consV (f : M T) (g : M (List T)) : M (List T) := fun τ => (f τ).bind fun p => (g p.2).map fun q => (p.1 :: q.1, q.2)
inductive LkA (K : PySem.W.Frag) (F H : Hp) : List V → List T → Prop
  | nil : LkA K F H [] []
  | cons {v : V} {vs : List V} {d : T} {ds : List T} : Lk K F H v d → LkA K F H vs ds → LkA K F H (v :: vs) (d :: ds)
def allRd : List (Sls → Option T) → Sls → Option (List T)
  | [], _ => some []
  | r :: rs, τ => (r τ).bind fun d => (allRd rs τ).map fun ds => d :: ds
def SAO (K : PySem.W.Frag) (ta : TA) (f : M (List (Sls → Option T))) : Prop := ∀ (τ τ' : Sls) (rs : List (Sls → Option T)) (σ : L2.St) (H F : Hp) (Q : List V → Hp → Prop), f τ = some (rs, τ') → Ok K F τ σ H →
  (∀ vs H' F', Ok K F' τ' σ H' → Stp τ σ H F τ' σ H' F' →
    (∀ τ2 H2 F2 ds, Ok K F2 τ2 σ H2 → Stp τ' σ H' F' τ2 σ H2 F2 → allRd rs τ2 = some ds → LkA K F2 H2 vs ds) → Q vs H') → ta σ H Q
structure EAO (X : Cx) (es : List Expr) (ta : TA) (f : M (List (Sls → Option T))) : Prop where
  pe : PA X es ta
  s : SAO X.K ta f
def nilO : M (List (Sls → Option T)) := fun τ => some ([], τ)
def consO (f : M (Sls → Option T)) (g : M (List (Sls → Option T))) : M (List (Sls → Option T)) := fun τ => (f τ).bind fun p => (g p.2).map fun q => (p.1 :: q.1, q.2)
/-- an argument of a call: a value, or a name whose root is lent -/
inductive Ag where
  | val (d : T) | plc (i : Nat)
inductive AgA (K : PySem.W.Frag) (F : Hp) (σ : L2.St) : List Ag → List V → Prop
  | nil : AgA K F σ [] []
  | val {d : T} {v : V} {as : List Ag} {vs : List V} : Rp K F v d → AgA K F σ as vs → AgA K F σ (.val d :: as) (v :: vs)
  | plc {i : Nat} {v : V} {as : List Ag} {vs : List V} : σ[i]? = some (some v) → AgA K F σ as vs → AgA K F σ (.plc i :: as) (v :: vs)
theorem AgA.mono {K : PySem.W.Frag} {F F' : Hp} {σ : L2.St} (s : Same F F') : ∀ {as : List Ag} {vs : List V}, AgA K F σ as vs → AgA K F' σ as vs
  | _, _, .nil => .nil
  | _, _, .val a b => .val (a.mono s) (b.mono s)
  | _, _, .plc a b => .plc a (b.mono s)
def SAC (K : PySem.W.Frag) (ta : TA) (f : M (List Ag)) : Prop := ∀ (τ τ' : Sls) (as : List Ag) (σ : L2.St) (H F : Hp) (Q : List V → Hp → Prop), f τ = some (as, τ') → Ok K F τ σ H →
  (∀ vs H' F', Ok K F' τ' σ H' → Stp τ σ H F τ' σ H' F' → AgA K F' σ as vs → Q vs H') → ta σ H Q
structure EAC (X : Cx) (es : List Expr) (ta : TA) (f : M (List Ag)) : Prop where
  pe : PA X es ta
  s : SAC X.K ta f
def nilC : M (List Ag) := fun τ => some ([], τ)
def consC (f : M T) (g : M (List Ag)) : M (List Ag) := fun τ => (f τ).bind fun p => (g p.2).map fun q => (.val p.1 :: q.1, q.2)
def plcC (i : Nat) (g : M (List Ag)) : M (List Ag) := fun τ => (slT τ[i]?).bind fun _ => (g τ).map fun q => (.plc i :: q.1, q.2)
section
variable {X : Cx} {e : Expr} {es : List Expr} {te : TE} {ta : TA} {pos : Pos}
theorem av_nil : EAV X [] tNil nilV := ⟨pa_nil, fun τ τ' ds σ H F Q e k c => by cases e; exact c [] H F k .refl .nil⟩
theorem av_cons {f : M T} {g : M (List T)} (h : EV X e te f) (hr : EAV X es ta g) (hs : starEach (e :: es) X.env = (false, eval e X.env) :: starEach es X.env := by rfl) : EAV X (e :: es) (tCons te ta) (consV f g) := by
  refine ⟨pa_cons h.pe hr.pe hs, fun τ τ' ds σ H F Q e k c => ?_⟩
  unfold consV at e
  obtain ⟨p, h1, e⟩ := Option.bind_eq_some_iff.mp e
  obtain ⟨q, h2, e⟩ := Option.map_eq_some_iff.mp e
  cases e
  exact h.s τ p.2 p.1 σ H F _ h1 k fun v H1 F1 k1 s1 r1 => hr.s p.2 q.2 q.1 σ H1 F1 _ h2 k1 fun vs H2 F2 k2 s2 r2 => c _ H2 F2 k2 (s1.trans s2) (.cons (r1.mono s2.fr) r2)
theorem ao_nil : EAO X [] tNil nilO := ⟨pa_nil, fun τ τ' ds σ H F Q e k c => by cases e; exact c [] H F k .refl fun τ2 H2 F2 ds _ _ e => by cases e; exact .nil⟩
theorem ao_cons {f : M (Sls → Option T)} {g : M (List (Sls → Option T))} (h : EO X e te f) (hr : EAO X es ta g) (hs : starEach (e :: es) X.env = (false, eval e X.env) :: starEach es X.env := by rfl) : EAO X (e :: es) (tCons te ta) (consO f g) := by
  refine ⟨pa_cons h.pe hr.pe hs, fun τ τ' ds σ H F Q e k c => ?_⟩
  unfold consO at e
  obtain ⟨p, h1, e⟩ := Option.bind_eq_some_iff.mp e
  obtain ⟨q, h2, e⟩ := Option.map_eq_some_iff.mp e
  cases e
  refine h.s τ p.2 p.1 σ H F _ h1 k fun v H1 F1 k1 s1 l1 => hr.s p.2 q.2 q.1 σ H1 F1 _ h2 k1 fun vs H2 F2 k2 s2 l2 => c _ H2 F2 k2 (s1.trans s2) fun τ3 H3 F3 ds k3 s3 e3 => ?_
  unfold allRd at e3
  obtain ⟨d, e1, e3⟩ := Option.bind_eq_some_iff.mp e3
  obtain ⟨ds', e2, e3⟩ := Option.map_eq_some_iff.mp e3
  cases e3
  exact .cons (l1 τ3 H3 F3 d k3 (s2.trans s3) e1) (l2 τ3 H3 F3 ds' k3 s3 e2)
theorem ac_nil : EAC X [] tNil nilC := ⟨pa_nil, fun τ τ' ds σ H F Q e k c => by cases e; exact c [] H F k .refl .nil⟩
theorem ac_cons {f : M T} {g : M (List Ag)} (h : EV X e te f) (hr : EAC X es ta g) (hs : starEach (e :: es) X.env = (false, eval e X.env) :: starEach es X.env := by rfl) : EAC X (e :: es) (tCons te ta) (consC f g) := by
  refine ⟨pa_cons h.pe hr.pe hs, fun τ τ' ds σ H F Q e k c => ?_⟩
  unfold consC at e
  obtain ⟨p, h1, e⟩ := Option.bind_eq_some_iff.mp e
  obtain ⟨q, h2, e⟩ := Option.map_eq_some_iff.mp e
  cases e
  exact h.s τ p.2 p.1 σ H F _ h1 k fun v H1 F1 k1 s1 r1 => hr.s p.2 q.2 q.1 σ H1 F1 _ h2 k1 fun vs H2 F2 k2 s2 r2 => c _ H2 F2 k2 (s1.trans s2) (.val (r1.mono s2.fr) r2)
theorem ac_plc (i : Nat) {x : Str} {p : Pos} {g : M (List Ag)} (hr : EAC X es ta g) (hN : X.N[i]? = some x := by rfl) (hv : Vis X.env.scope x := by first | exact Or.inl rfl | exact Or.inr (Or.inl rfl) | exact Or.inr (Or.inr rfl)) (hd : (x == ("__debug__" : Str)) = false := by decide)
    (hcd : (x == ("__classdict__" : Str)) = false := by decide) (hs : starEach (.Name x p :: es) X.env = (false, eval (.Name x p) X.env) :: starEach es X.env := by rfl) : EAC X (.Name x p :: es) (tCons (tVar i) ta) (plcC i g) := by
  refine ⟨pa_cons (pe_var hN hv hd hcd) hr.pe hs, fun τ τ' ds σ H F Q e k c => ?_⟩
  unfold plcC at e
  obtain ⟨d, h1, e⟩ := Option.bind_eq_some_iff.mp e
  obtain ⟨q, h2, e⟩ := Option.map_eq_some_iff.mp e
  cases e
  cases es : τ[i]? with
  | none => rw [es] at h1; cases h1
  | some s =>
    have hn : s ≠ .no := fun z => by rw [es, z] at h1; cases h1
    obtain ⟨v, hv, _⟩ := k.val es hn
    exact ⟨v, hv, hr.s τ q.2 q.1 σ H F _ h2 k fun vs H2 F2 k2 s2 r2 => c _ H2 F2 k2 s2 (.plc hv r2)⟩

/-! ### displays -/
def tupE (f : M (List T)) : M R := fun τ => (f τ).bind fun p => if p.1.length ≤ sizeLine then some (⟨.tup p.1, false⟩, p.2) else none
def lstE (f : M (List T)) : M R := fun τ => (f τ).bind fun p => if p.1.length ≤ sizeLine then some (⟨.lst p.1, true⟩, p.2) else none
theorem e_tup {x1} {f : M (List T)} (h : EAV X es ta f) : EE X (.Tuple es x1 pos) (tTup ta) (tupE f) := by
  refine ⟨pe_tup h.pe, fun τ τ' r σ H F Q e k c => ?_⟩
  unfold tupE at e
  obtain ⟨p, h1, e⟩ := Option.bind_eq_some_iff.mp e
  split at e
  · rename_i hz
    cases e
    refine h.s τ p.2 p.1 σ H F _ h1 k fun vs H1 F1 k1 s1 r1 => ⟨by rw [r1.length]; exact hz, fun l hl => ?_⟩
    exact new_tup k1.sub hl r1 fun v H' F' g ro => c v H' F' (k1.grow g) (s1.trans g.step) ((ro.ok k1 g).back s1)
  · cases e
theorem e_lst {f : M (List T)} (h : EAV X es ta f) : EE X (.List es pos) (tLst ta) (lstE f) := by
  refine ⟨pe_lst h.pe, fun τ τ' r σ H F Q e k c => ?_⟩
  unfold lstE at e
  obtain ⟨p, h1, e⟩ := Option.bind_eq_some_iff.mp e
  split at e
  · rename_i hz
    cases e
    refine h.s τ p.2 p.1 σ H F _ h1 k fun vs H1 F1 k1 s1 r1 => ⟨by rw [r1.length]; exact hz, fun l hl => ?_⟩
    exact new_lst k1.sub hl r1 fun v H' F' g ro => c v H' F' (k1.grow g) (s1.trans g.step) ((ro.ok k1 g).back s1)
  · cases e
def dicE : M R := fun τ => some (⟨.dic [], true⟩, τ)
def ditE : M R := fun τ => some (⟨.dit [], true⟩, τ)
theorem Ok.fresh {K : PySem.W.Frag} {F H : Hp} {τ : Sls} {σ : L2.St} (k : Ok K F τ σ H) {p : Addr} (h : H p = none) : F p = none ∧ ¬ IsRoot τ σ p :=
  ⟨k.sub.free h, fun z => by obtain ⟨o, e⟩ := k.rootH z; rw [h] at e; cases e⟩
theorem e_dic : EE X (.Dict [] [] pos) tDNewK dicE := ⟨pe_dnewK, fun τ τ' r σ H F Q e k c => by
  cases e
  intro p hp
  have g := Grow.updH (o := .dK []) k.sub hp
  obtain ⟨f1, f2⟩ := k.fresh hp
  exact c _ _ F (k.grow g) g.step (.inr ⟨rfl, p, rfl, f1, f2, .inl hp, [], upd_same, .nil⟩)⟩
theorem e_dit : EE X (.Dict [] [] pos) tDNewT ditE := ⟨pe_dnewT, fun τ τ' r σ H F Q e k c => by
  cases e
  intro p hp
  have g := Grow.updH (o := .dT []) k.sub hp
  obtain ⟨f1, f2⟩ := k.fresh hp
  exact c _ _ F (k.grow g) g.step (.inr ⟨rfl, p, rfl, f1, f2, .inl hp, [], upd_same, .nil⟩)⟩

/-! ### built-ins -/
def RLS (K : PySem.W.Frag) (r : List V → Hp → VK → Prop) (g : List T → Option R) : Prop := ∀ (xs : List V) (as : List T) (res : R) (F H : Hp) (Q : VK), g as = some res → Same F H → LkA K F H xs as →
  (∀ v H' F', Grow H F H' F' → RO K F' H' H v res → Q v H') → r xs H Q
def calE (g : List T → Option R) (f : M (List (Sls → Option T))) : M R := fun τ => (f τ).bind fun p => (allRd p.1 p.2).bind fun ds => (g ds).map fun r => (r, p.2)
theorem s_cal {K : PySem.W.Frag} {r : List V → Hp → VK → Prop} {g : List T → Option R} {f : M (List (Sls → Option T))} (hr : RLS K r g) (ha : SAO K ta f) : SE K (tCB r ta) (calE g f) := by
  intro τ τ' res σ H F Q e k c
  unfold calE at e
  obtain ⟨p, h1, e⟩ := Option.bind_eq_some_iff.mp e
  obtain ⟨ds, h2, e⟩ := Option.bind_eq_some_iff.mp e
  obtain ⟨r', h3, e⟩ := Option.map_eq_some_iff.mp e
  cases e
  refine ha τ p.2 p.1 σ H F _ h1 k fun vs H1 F1 k1 s1 l1 => hr vs ds _ F1 H1 Q h3 k1.sub (l1 _ _ _ _ k1 .refl h2) fun v H' F' g ro => ?_
  exact c v H' F' (k1.grow g) (s1.trans g.step) ((ro.ok k1 g).back s1)
theorem e_callB {x : Str} {id : String} {p : Pos} {r : List V → Hp → VK → Prop} {g : List T → Option R} {f : M (List (Sls → Option T))} (hr : RLS X.K r g) (hc : CallR X (.builtin id) r) (hg : Gl X x) (hm : X.mg x = none) (hv : bootBuiltins x = some (.builtin id)) (ha : EAO X (e :: es) ta f)
    (hn : x ≠ "__name__" := by decide) (hdb : (x == ("__debug__" : Str)) = false := by decide)
    (he : starEach (e :: es) X.env = (false, eval e X.env) :: starEach es X.env := by rfl) (hpl : (backTo pos (starEach es X.env)).any (·.1) = false := by rfl) : EE X (.Call (.Name x p) (e :: es) [] pos) (tCB r ta) (calE g f) :=
  ⟨pe_callB hc hg hm hv ha.pe hn hdb he hpl, s_cal hr ha.s⟩
theorem e_callT {x : Str} {id : String} {p : Pos} {r : List V → Hp → VK → Prop} {g : List T → Option R} {f : M (List (Sls → Option T))} (hr : RLS X.K r g) (hc : CallR X (.type id) r) (hg : Gl X x) (hm : X.mg x = none) (hv : bootBuiltins x = some (.type id)) (ha : EAO X (e :: es) ta f)
    (hn : x ≠ "__name__" := by decide) (hdb : (x == ("__debug__" : Str)) = false := by decide)
    (he : starEach (e :: es) X.env = (false, eval e X.env) :: starEach es X.env := by rfl) (hpl : (backTo pos (starEach es X.env)).any (·.1) = false := by rfl) : EE X (.Call (.Name x p) (e :: es) [] pos) (tCB r ta) (calE g f) :=
  ⟨pe_callTy hc hg hm hv ha.pe hn hdb he hpl, s_cal hr ha.s⟩
end

/-! ### calls of defs -/
abbrev FnS := Sls → Option (R × Sls)
def Sl.isPar : Sl → Bool
  | .fr _ => true
  | .ln _ => true
  | _ => false
def spT (K : PySem.W.Frag) (n : Nat) (f : FnS) : Sp := fun vs H Q _ => vs.length = n ∧ ∃ F τ r τ', Ok K F τ (vs.map some) H ∧ (∀ s ∈ τ, s.isPar = true) ∧ f τ = some (r, τ') ∧
  ∀ v H' F', Ok K F' τ' (vs.map some) H' → Stp τ (vs.map some) H F τ' (vs.map some) H' F' → ROk K F' H' τ' (vs.map some) τ (vs.map some) H v r → Q v H'
def agS (τ : Sls) : Ag → Option Sl
  | .val d => some (.fr d)
  | .plc i => match τ[i]? with
    | some (.fr d) => some (.fr d)
    | some (.ow d) => some (.ln d)
    | some (.ln d) => some (.ln d)
    | _ => none
def parm (τ : Sls) : List Ag → Option Sls
  | [] => some []
  | a :: as => (agS τ a).bind fun s => (parm τ as).map fun r => s :: r
def plcs : List Ag → List Nat
  | [] => []
  | .plc i :: r => i :: plcs r
  | .val _ :: r => plcs r
def nodupN : List Nat → Bool
  | [] => true
  | i :: r => !r.contains i && nodupN r
def findP (j : Nat) : List Ag → Sls → Option T
  | .plc i :: as, .ln d :: ss => if i = j then some d else findP j as ss
  | _ :: as, _ :: ss => findP j as ss
  | _, _ => none
def mapI (f : Nat → Sl → Sl) : Nat → Sls → Sls
  | _, [] => []
  | n, s :: r => f n s :: mapI f (n + 1) r
theorem mapI_get (f : Nat → Sl → Sl) : ∀ (τ : Sls) (n j : Nat), (mapI f n τ)[j]? = (τ[j]?).map (f (n + j))
  | [], _, _ => by simp [mapI]
  | s :: r, n, 0 => by simp [mapI]
  | s :: r, n, j + 1 => by
    simp only [mapI, List.getElem?_cons_succ]
    rw [mapI_get f r (n + 1) j]
    congr 2
    omega
theorem mapI_length (f : Nat → Sl → Sl) : ∀ (τ : Sls) (n : Nat), (mapI f n τ).length = τ.length
  | [], _ => rfl
  | s :: r, n => congrArg Nat.succ (mapI_length f r (n + 1))
def unS (as : List Ag) (ss : Sls) (j : Nat) (s : Sl) : Sl := match s, findP j as ss with
  | .ow _, some d => .ow d
  | .ln _, some d => .ln d
  | s, _ => s
def unparm (τ : Sls) (as : List Ag) (ss : Sls) : Sls := mapI (unS as ss) 0 τ
def callE (f : FnS) (fa : M (List Ag)) : M R := fun τ => (fa τ).bind fun p => if nodupN (plcs p.1) = true then (parm p.2 p.1).bind fun τc => (f τc).map fun q => (q.1, unparm p.2 p.1 q.2) else none
theorem findP_some {j : Nat} {d : T} : ∀ {as : List Ag} {ss : Sls}, findP j as ss = some d → ∃ m : Nat, as[m]? = some (.plc j) ∧ ss[m]? = some (.ln d)
  | [], ss, h => by simp [findP] at h
  | .plc i :: as, [], h => by simp [findP] at h
  | .val _ :: as, [], h => by simp [findP] at h
  | .plc i :: as, .ln d' :: ss, h => by
    simp only [findP] at h
    split at h
    · rename_i hi
      cases h
      exact ⟨0, by simp [hi], rfl⟩
    · obtain ⟨m, h1, h2⟩ := findP_some h
      exact ⟨m + 1, by simpa using h1, by simpa using h2⟩
  | .plc i :: as, .no :: ss, h | .plc i :: as, .fr _ :: ss, h | .plc i :: as, .ow _ :: ss, h => by
    simp only [findP] at h
    obtain ⟨m, h1, h2⟩ := findP_some h
    exact ⟨m + 1, by simpa using h1, by simpa using h2⟩
  | .val _ :: as, s :: ss, h => by
    simp only [findP] at h
    obtain ⟨m, h1, h2⟩ := findP_some h
    exact ⟨m + 1, by simpa using h1, by simpa using h2⟩
theorem findP_there {j : Nat} {d : T} : ∀ {as : List Ag} {ss : Sls} {m : Nat}, as[m]? = some (.plc j) → ss[m]? = some (.ln d) → (findP j as ss).isSome = true
  | [], _, _, h, _ => by simp at h
  | _ :: _, [], _, _, h => by simp at h
  | .plc i :: as, .ln d' :: ss, m, h1, h2 => by
    simp only [findP]
    split
    · rfl
    · rename_i hi
      cases m with
      | zero => simp at h1; exact absurd h1 hi
      | succ m => exact findP_there (m := m) (by simpa using h1) (by simpa using h2)
  | .plc i :: as, .no :: ss, m, h1, h2 | .plc i :: as, .fr _ :: ss, m, h1, h2 | .plc i :: as, .ow _ :: ss, m, h1, h2 | .val _ :: as, s :: ss, m, h1, h2 => by
    simp only [findP]
    cases m with
    | zero => simp at h1 h2
    | succ m => exact findP_there (m := m) (by simpa using h1) (by simpa using h2)
theorem plcs_mem {i : Nat} : ∀ {as : List Ag} {m : Nat}, as[m]? = some (.plc i) → i ∈ plcs as
  | [], _, h => by simp at h
  | .plc j :: r, 0, h => by simp at h; simp [plcs, h]
  | .val _ :: r, 0, h => by simp at h
  | .plc j :: r, m + 1, h => List.mem_cons_of_mem _ (plcs_mem (m := m) (by simpa using h))
  | .val _ :: r, m + 1, h => plcs_mem (as := r) (m := m) (by simpa using h)
theorem plcs_inj {i : Nat} : ∀ {as : List Ag} {m n : Nat}, nodupN (plcs as) = true → as[m]? = some (.plc i) → as[n]? = some (.plc i) → m = n
  | [], _, _, _, h, _ => by simp at h
  | .plc j :: r, 0, 0, _, _, _ => rfl
  | .val _ :: r, 0, _, _, h, _ => by simp at h
  | .val _ :: r, _ + 1, 0, _, _, h => by simp at h
  | .plc j :: r, 0, n + 1, h, h1, h2 => by
    simp at h1
    subst h1
    simp only [plcs, nodupN, Bool.and_eq_true, Bool.not_eq_true', List.contains_eq_mem, decide_eq_false_iff_not] at h
    exact absurd (plcs_mem (m := n) (by simpa using h2)) h.1
  | .plc j :: r, m + 1, 0, h, h1, h2 => by
    simp at h2
    subst h2
    simp only [plcs, nodupN, Bool.and_eq_true, Bool.not_eq_true', List.contains_eq_mem, decide_eq_false_iff_not] at h
    exact absurd (plcs_mem (m := m) (by simpa using h1)) h.1
  | .plc j :: r, m + 1, n + 1, h, h1, h2 => by
    simp only [plcs, nodupN, Bool.and_eq_true] at h
    exact congrArg Nat.succ (plcs_inj h.2 (by simpa using h1) (by simpa using h2))
  | .val _ :: r, m + 1, n + 1, h, h1, h2 => congrArg Nat.succ (plcs_inj (as := r) h (by simpa using h1) (by simpa using h2))
theorem parm_length {τ : Sls} : ∀ {as : List Ag} {τc : Sls}, parm τ as = some τc → τc.length = as.length
  | [], _, h => by cases h; rfl
  | a :: as, τc, h => by
    simp only [parm] at h
    obtain ⟨s, _, h⟩ := Option.bind_eq_some_iff.mp h
    obtain ⟨r, h2, h⟩ := Option.map_eq_some_iff.mp h
    cases h
    exact congrArg Nat.succ (parm_length h2)
theorem parm_get {τ : Sls} : ∀ {as : List Ag} {τc : Sls} {m : Nat} {s : Sl}, parm τ as = some τc → τc[m]? = some s → ∃ a, as[m]? = some a ∧ agS τ a = some s
  | [], _, _, _, h, h2 => by cases h; simp at h2
  | a :: as, τc, m, s, h, h2 => by
    simp only [parm] at h
    obtain ⟨s', h1, h⟩ := Option.bind_eq_some_iff.mp h
    obtain ⟨r, h3, h⟩ := Option.map_eq_some_iff.mp h
    cases h
    cases m with
    | zero => simp at h2; subst h2; exact ⟨a, rfl, h1⟩
    | succ m =>
      obtain ⟨a', e1, e2⟩ := parm_get (m := m) h3 (by simpa using h2)
      exact ⟨a', by simpa using e1, e2⟩
theorem agS_par {τ : Sls} {a : Ag} {s : Sl} (h : agS τ a = some s) : s.isPar = true := by
  cases a with
  | val d => cases h; rfl
  | plc i =>
    simp only [agS] at h
    split at h <;> first | (cases h; rfl) | cases h
theorem AgA.length {K : PySem.W.Frag} {F : Hp} {σ : L2.St} : ∀ {as : List Ag} {vs : List V}, AgA K F σ as vs → as.length = vs.length
  | _, _, .nil => rfl
  | _, _, .val _ b => congrArg Nat.succ b.length
  | _, _, .plc _ b => congrArg Nat.succ b.length
theorem AgA.val_at {K : PySem.W.Frag} {F : Hp} {σ : L2.St} {d : T} {v : V} : ∀ {as : List Ag} {vs : List V} {m : Nat}, AgA K F σ as vs → as[m]? = some (.val d) → vs[m]? = some v → Rp K F v d
  | _, _, _, .nil, h, _ => by simp at h
  | _, _, 0, .val a b, h1, h2 => by simp at h1 h2; subst h1 h2; exact a
  | _, _, 0, .plc a b, h1, h2 => by simp at h1
  | _, _, m + 1, .val a b, h1, h2 => AgA.val_at (m := m) b (by simpa using h1) (by simpa using h2)
  | _, _, m + 1, .plc a b, h1, h2 => AgA.val_at (m := m) b (by simpa using h1) (by simpa using h2)
theorem AgA.plc_at {K : PySem.W.Frag} {F : Hp} {σ : L2.St} {i : Nat} {v : V} : ∀ {as : List Ag} {vs : List V} {m : Nat}, AgA K F σ as vs → as[m]? = some (.plc i) → vs[m]? = some v → σ[i]? = some (some v)
  | _, _, _, .nil, h, _ => by simp at h
  | _, _, 0, .val a b, h1, h2 => by simp at h1
  | _, _, 0, .plc a b, h1, h2 => by simp at h1 h2; subst h1 h2; exact a
  | _, _, m + 1, .val a b, h1, h2 => AgA.plc_at (m := m) b (by simpa using h1) (by simpa using h2)
  | _, _, m + 1, .plc a b, h1, h2 => AgA.plc_at (m := m) b (by simpa using h1) (by simpa using h2)
section
variable {K : PySem.W.Frag} {F F' H H' : Hp} {τ τc τc' : Sls} {σ : L2.St} {as : List Ag} {vs : List V}
/-- the callee's roots are the caller's -/
theorem parm_root (k : Ok K F τ σ H) (ha : AgA K F σ as vs) (hp : parm τ as = some τc) {m : Nat} {p : Addr} (r : RootAt τc (vs.map some) m p) : ∃ i, as[m]? = some (.plc i) ∧ RootAt τ σ i p ∧ ∃ d, τc[m]? = some (.ln d) := by
  obtain ⟨s, h1, h2, h3⟩ := r
  obtain ⟨a, e1, e2⟩ := parm_get hp h1
  cases a with
  | val d => cases e2; cases h2
  | plc i =>
    rw [List.getElem?_map] at h3
    obtain ⟨v, hv, h3⟩ := Option.map_eq_some_iff.mp h3
    cases h3
    have hσ := ha.plc_at e1 hv
    simp only [agS] at e2
    split at e2 <;> rename_i ht
    · cases e2; cases h2
    · cases e2; exact ⟨i, e1, ⟨_, ht, rfl, hσ⟩, _, h1⟩
    · cases e2; exact ⟨i, e1, ⟨_, ht, rfl, hσ⟩, _, h1⟩
    · cases e2
theorem parm_isRoot (k : Ok K F τ σ H) (ha : AgA K F σ as vs) (hp : parm τ as = some τc) {p : Addr} (r : IsRoot τc (vs.map some) p) : IsRoot τ σ p :=
  let ⟨_, r⟩ := r; let ⟨i, _, q, _⟩ := parm_root k ha hp r; ⟨i, q⟩
theorem parm_ok (k : Ok K F τ σ H) (ha : AgA K F σ as vs) (hn : nodupN (plcs as) = true) (hp : parm τ as = some τc) : Ok K F τc (vs.map some) H := by
  refine ⟨k.sub, ?_, fun m s x h1 h2 => ?_, fun m n p r1 r2 => ?_⟩
  · rw [parm_length hp, List.length_map, ha.length]
  · obtain ⟨a, e1, e2⟩ := parm_get hp h1
    rw [List.getElem?_map] at h2
    obtain ⟨v, hv, h2⟩ := Option.map_eq_some_iff.mp h2
    subst h2
    cases a with
    | val d => cases e2; exact ⟨v, rfl, ha.val_at e1 hv⟩
    | plc i =>
      have hσ := ha.plc_at e1 hv
      simp only [agS] at e2
      split at e2 <;> rename_i ht
      · cases e2; exact k.sl i _ _ ht hσ
      · cases e2; have q := k.sl i _ _ ht hσ; exact q
      · cases e2; exact k.sl i _ _ ht hσ
      · cases e2
  · obtain ⟨i, a1, b1, _⟩ := parm_root k ha hp r1
    obtain ⟨j, a2, b2, _⟩ := parm_root k ha hp r2
    have e := k.ne i j p b1 b2
    subst e
    exact plcs_inj hn a1 a2
theorem unS_root {j : Nat} {s : Sl} : (unS as τc' j s).isRoot = s.isRoot := by
  unfold unS
  split <;> rfl
theorem unparm_get {j : Nat} : (unparm τ as τc')[j]? = (τ[j]?).map (unS as τc' j) := by
  unfold unparm
  rw [mapI_get, Nat.zero_add]
theorem unparm_rootAt {j : Nat} {p : Addr} : RootAt (unparm τ as τc') σ j p ↔ RootAt τ σ j p := by
  constructor
  · rintro ⟨s, h1, h2, h3⟩
    rw [unparm_get] at h1
    obtain ⟨s', e, h1⟩ := Option.map_eq_some_iff.mp h1
    subst h1
    rw [unS_root] at h2
    exact ⟨s', e, h2, h3⟩
  · rintro ⟨s, h1, h2, h3⟩
    exact ⟨unS as τc' j s, by rw [unparm_get, h1]; rfl, by rw [unS_root]; exact h2, h3⟩
theorem unparm_ok (k : Ok K F τ σ H) (ha : AgA K F σ as vs) (hn : nodupN (plcs as) = true) (hp : parm τ as = some τc) (k' : Ok K F' τc' (vs.map some) H') (s : Stp τc (vs.map some) H F τc' (vs.map some) H' F') :
    Ok K F' (unparm τ as τc') σ H' ∧ Stp τ σ H F (unparm τ as τc') σ H' F' := by
  have root : ∀ {j : Nat} {sl : Sl} {p : Addr} {d : T}, τ[j]? = some sl → sl.isRoot = true → σ[j]? = some (some (.ref p)) → F p = none → Own K F H p d →
      (∀ d', findP j as τc' = some d' → F' p = none ∧ Own K F' H' p d') ∧ (findP j as τc' = none → F' p = none ∧ Own K F' H' p d) := fun {j sl p d} h1 h2 h3 h4 h5 => by
    refine ⟨fun d' e => ?_, fun e => ?_⟩
    · obtain ⟨m, e1, e2⟩ := findP_some e
      have hm : m < vs.length := by rw [← ha.length]; exact (List.getElem?_eq_some_iff.mp e1).1
      have hv : vs[m]? = some vs[m] := List.getElem?_eq_getElem hm
      have q := ha.plc_at e1 hv
      rw [h3] at q
      have q' := Option.some.inj (Option.some.inj q)
      obtain ⟨p', e3, e4, e5⟩ := k'.sl m _ (some vs[m]) e2 (by rw [List.getElem?_map, hv]; rfl)
      rw [← q'] at e3
      cases e3
      exact ⟨e4, e5⟩
    · have nr : ¬ IsRoot τc (vs.map some) p := fun ⟨m, r⟩ => by
        obtain ⟨i, a1, b1, d1, c1⟩ := parm_root k ha hp r
        have ei := k.ne i j p b1 ⟨sl, h1, h2, h3⟩
        subst ei
        obtain ⟨⟨d2, c2⟩, _⟩ := s.ln m d1 c1
        have z := findP_there a1 c2
        rw [e] at z
        cases z
      obtain ⟨o, ho⟩ := h5.there
      have hk := s.keep p o ho nr
      refine ⟨?_, h5.mono s.fr (hk.trans ho.symm)⟩
      cases q : F' p with
      | none => rfl
      | some u =>
        rcases s.new p u q with z | z | z
        · rw [h4] at z; cases z
        · rw [ho] at z; cases z
        · exact absurd z nr
  refine ⟨⟨k'.sub, by unfold unparm; rw [mapI_length]; exact k.len, fun j sl x h1 h2 => ?_, fun i j p r1 r2 => k.ne i j p (unparm_rootAt.mp r1) (unparm_rootAt.mp r2)⟩,
    ⟨fun b o h n => s.keep b o h fun z => n (parm_isRoot k ha hp z), s.dom, s.fr, fun b o h => (s.new b o h).imp id fun z => z.imp id fun z => parm_isRoot k ha hp z, fun p ⟨j, r⟩ => .inl ⟨j, unparm_rootAt.mp r⟩, fun j d h => ?_⟩⟩
  · rw [unparm_get] at h1
    obtain ⟨s0, e0, h1⟩ := Option.map_eq_some_iff.mp h1
    have q := k.sl j s0 x e0 h2
    subst h1
    cases s0 with
    | no => exact trivial
    | fr d =>
      obtain ⟨v, e, r⟩ := q
      exact ⟨v, e, r.mono s.fr⟩
    | ow d =>
      obtain ⟨p, e, a, b⟩ := q
      subst e
      obtain ⟨g1, g2⟩ := root e0 rfl h2 a b
      unfold unS
      cases e1 : findP j as τc' with
      | none => exact ⟨p, rfl, g2 e1⟩
      | some d' => exact ⟨p, rfl, g1 d' e1⟩
    | ln d =>
      obtain ⟨p, e, a, b⟩ := q
      subst e
      obtain ⟨g1, g2⟩ := root e0 rfl h2 a b
      unfold unS
      cases e1 : findP j as τc' with
      | none => exact ⟨p, rfl, g2 e1⟩
      | some d' => exact ⟨p, rfl, g1 d' e1⟩
  · refine ⟨?_, rfl⟩
    rw [unparm_get, h]
    show ∃ d', some (unS as τc' j (.ln d)) = some (.ln d')
    unfold unS
    cases findP j as τc' with
    | none => exact ⟨d, rfl⟩
    | some d' => exact ⟨d', rfl⟩
end
theorem s_call {K : PySem.W.Frag} {ta : TA} {n : Nat} {f : FnS} {fa : M (List Ag)} {E : XK} (hl : ∀ {as τ τ'}, fa τ = some (as, τ') → as.length = n) (ha : SAC K ta fa) : SE K (tCall (spT K n f) [] E ta) (callE f fa) := by
  intro τ τ' res σ H F Q e k c
  unfold callE at e
  obtain ⟨p, h1, e⟩ := Option.bind_eq_some_iff.mp e
  split at e
  · rename_i hn
    obtain ⟨τc, h2, e⟩ := Option.bind_eq_some_iff.mp e
    obtain ⟨q, h3, e⟩ := Option.map_eq_some_iff.mp e
    cases e
    refine ha τ p.2 p.1 σ H F _ h1 k fun vs H1 F1 k1 s1 a1 => ?_
    rw [List.append_nil]
    refine ⟨by rw [← a1.length]; exact hl h1, F1, τc, q.1, q.2, parm_ok k1 a1 hn h2, fun s hs => ?_, h3, fun v H' F' k' s' ro => ?_⟩
    · obtain ⟨m, hm⟩ := List.getElem?_of_mem hs
      obtain ⟨a, _, e2⟩ := parm_get h2 hm
      exact agS_par e2
    · obtain ⟨k2, s2⟩ := unparm_ok k1 a1 hn h2 k' s'
      refine c v H' F' k2 (s1.trans s2) (ROk.back s1 ?_)
      rcases ro with ⟨e, h⟩ | ⟨e, p', h1, h2', h3, h4, h5⟩
      · exact .inl ⟨e, h⟩
      · have h6 : H1 p' = none := by
          rcases h4 with z | z
          · exact z
          · obtain ⟨m, r⟩ := z
            obtain ⟨i, _, _, d, hd⟩ := parm_root k1 a1 h2 r
            obtain ⟨⟨d', hd'⟩, _⟩ := s'.ln m d hd
            obtain ⟨_, _, _, hv⟩ := r
            exact absurd ⟨m, _, hd', rfl, hv⟩ h3
        refine .inr ⟨e, p', h1, h2', fun z => ?_, .inl h6, h5⟩
        obtain ⟨j, r⟩ := z
        obtain ⟨o, eo⟩ := k1.rootH ⟨j, unparm_rootAt.mp r⟩
        rw [h6] at eo
        cases eo
  · cases e
end TR

namespace TR
open PySem L2

structure ES (X : Cx) (st : Stmt) (ts : TS) (g : Sls → Option Out) : Prop where
  pe : PS X st ts
  s : SS X.K ts g
structure EL (X : Cx) (st : List Stmt) (ts : TS) (g : Sls → Option Out) : Prop where
  pe : PSs X st ts
  s : SS X.K ts g

/-! ### blocks -/
def skS : Sls → Option Out := fun τ => some (.nx τ)
def sqS (f g : Sls → Option Out) : Sls → Option Out := fun τ => (f τ).bind fun o => match o with
  | .nx τ1 => g τ1
  | o => some o
def bkS : Sls → Option Out := fun τ => some (.bk τ)
def ctS : Sls → Option Out := fun τ => some (.ct τ)
def ifS (c : M Bool) (f g : Sls → Option Out) : Sls → Option Out := fun τ => (c τ).bind fun p => if p.1 = true then f p.2 else g p.2
def exS (f : M R) : Sls → Option Out := fun τ => (f τ).map fun p => .nx p.2
def rtS (f : M R) : Sls → Option Out := fun τ => (f τ).map fun p => .rt p.1 p.2
def rtN : Sls → Option Out := fun τ => some (.rt ⟨.non, false⟩ τ)
/-- a name handed back: an own root goes with it -/
def mvS (i : Nat) : Sls → Option Out := fun τ => match τ[i]? with
  | some (.fr d) => some (.rt ⟨d, false⟩ τ)
  | some (.ow d) => some (.rt ⟨d, true⟩ (τ.set i .no))
  | _ => none
section
variable {K : PySem.W.Frag}
theorem s_seq {t u : TS} {f g : Sls → Option Out} (hf : SS K t f) (hg : SS K u g) : SS K (tSeq t u) (sqS f g) := by
  intro τ out σ H F D e k c
  unfold sqS at e
  obtain ⟨o, h1, e⟩ := Option.bind_eq_some_iff.mp e
  refine hf τ o σ H F _ h1 k ?_
  cases o with
  | nx τ1 => exact fun σ' H' F' k' s' => hg τ1 out σ' H' F' D e k' (c.after s')
  | bk τ1 => cases e; exact c
  | ct τ1 => cases e; exact c
  | rt r τ1 => cases e; exact c
theorem s_skip : SS K tNext skS := by
  intro τ out σ H F D e k c
  cases e
  exact c σ H F k .refl
theorem s_bk : SS K tBreak bkS := by
  intro τ out σ H F D e k c
  cases e
  exact c σ H F k .refl
theorem s_ct : SS K tCont ctS := by
  intro τ out σ H F D e k c
  cases e
  exact c σ H F k .refl
theorem s_if {tc : TT} {t u : TS} {fc : M Bool} {f g : Sls → Option Out} (hc : SB K tc fc) (hf : SS K t f) (hg : SS K u g) : SS K (tIfS tc t u) (ifS fc f g) := by
  intro τ out σ H F D e k c
  unfold ifS at e
  obtain ⟨p, h1, e⟩ := Option.bind_eq_some_iff.mp e
  refine hc τ p.2 p.1 σ H F _ h1 k fun H' F' k' s' => ?_
  by_cases hp : p.1 = true
  · rw [if_pos hp] at e ⊢
    exact hf p.2 out σ H' F' D e k' (c.after s')
  · rw [if_neg hp] at e ⊢
    exact hg p.2 out σ H' F' D e k' (c.after s')
theorem s_expr {te : TE} {f : M R} (h : SE K te f) : SS K (tDrop te) (exS f) := by
  intro τ out σ H F D e k c
  unfold exS at e
  obtain ⟨p, h1, e⟩ := Option.map_eq_some_iff.mp e
  cases e
  exact h τ p.2 p.1 σ H F _ h1 k fun v H' F' k' s' _ => c σ H' F' k' s'
theorem s_ret {te : TE} {f : M R} (h : SE K te f) : SS K (tRet te) (rtS f) := by
  intro τ out σ H F D e k c
  unfold rtS at e
  obtain ⟨p, h1, e⟩ := Option.map_eq_some_iff.mp e
  cases e
  exact h τ p.2 p.1 σ H F _ h1 k fun v H' F' k' s' q => c v σ H' F' k' s' q
theorem s_retN : SS K tRetN rtN := by
  intro τ out σ H F D e k c
  cases e
  exact c _ σ H F k .refl (.inl ⟨rfl, .non⟩)
theorem Ok.drop {F H : Hp} {τ : Sls} {σ : L2.St} (k : Ok K F τ σ H) (i : Nat) : Ok K F (τ.set i .no) σ H := by
  refine ⟨k.sub, by rw [List.length_set]; exact k.len, fun j s x h1 h2 => ?_, fun j l q r1 r2 => k.ne j l q (rootAt_set rfl r1).2 (rootAt_set rfl r2).2⟩
  by_cases q : i = j
  · subst q
    by_cases hl : i < τ.length
    · rw [List.getElem?_set_self hl] at h1
      cases h1
      trivial
    · rw [List.getElem?_eq_none (by simpa using hl)] at h1
      cases h1
  · rw [List.getElem?_set_ne q] at h1
    exact k.sl j s x h1 h2
theorem s_move {i : Nat} : SS K (tRet (tVar i)) (mvS i) := by
  intro τ out σ H F D e k c
  unfold mvS at e
  split at e
  · rename_i d e1
    cases e
    have hi : i < σ.length := by rw [← k.len]; exact (List.getElem?_eq_some_iff.mp e1).1
    have hx : σ[i]? = some σ[i] := List.getElem?_eq_getElem hi
    obtain ⟨v, e, r⟩ := k.sl i _ _ e1 hx
    rw [e] at hx
    exact ⟨v, hx, c v σ H F k .refl (.inl ⟨rfl, r⟩)⟩
  · rename_i d e1
    cases e
    have hl : i < τ.length := (List.getElem?_eq_some_iff.mp e1).1
    have hi : i < σ.length := by rw [← k.len]; exact hl
    have hx : σ[i]? = some σ[i] := List.getElem?_eq_getElem hi
    obtain ⟨p, e, a, b⟩ := k.sl i _ _ e1 hx
    rw [e] at hx
    have ri : RootAt τ σ i p := ⟨_, e1, rfl, hx⟩
    refine ⟨_, hx, c (.ref p) σ H F (k.drop i) ⟨fun _ _ h _ => h, fun _ o h => ⟨o, h⟩, fun _ _ h => h, fun _ _ h => .inl h, fun q ⟨j, r⟩ => .inl ⟨j, (rootAt_set rfl r).2⟩, fun j d' h => ⟨⟨d', ?_⟩, rfl⟩⟩
      (.inr ⟨rfl, p, rfl, a, fun ⟨j, r⟩ => (rootAt_set rfl r).1 (k.ne j i p (rootAt_set rfl r).2 ri), .inr ⟨i, ri⟩, b⟩)⟩
    have q : i ≠ j := fun z => by subst z; rw [e1] at h; cases h
    rw [List.getElem?_set_ne q]
    exact h
  · cases e
end
end TR

namespace TR
open PySem L2
section
variable {K : PySem.W.Frag} {F H F' H' : Hp} {τ τ' : Sls} {σ : L2.St}

/-! ### a slot is bound -/
def bnd (τ : Sls) (i : Nat) (r : R) : Option Sls := match τ[i]? with
  | some (.ln _) => none
  | some _ => some (τ.set i (if r.o = true then .ow r.d else .fr r.d))
  | none => none
theorem rootAt_set2 {i j : Nat} {s : Sl} {v : V} {p : Addr} (hl : i < τ.length) (he : τ.length = σ.length) (r : RootAt (τ.set i s) (σ.set i (some v)) j p) : (j = i ∧ s.isRoot = true ∧ v = .ref p) ∨ (j ≠ i ∧ RootAt τ σ j p) := by
  obtain ⟨s', h1, h2, h3⟩ := r
  by_cases q : i = j
  · subst q
    rw [List.getElem?_set_self hl] at h1
    rw [List.getElem?_set_self (by omega)] at h3
    cases h1
    cases h3
    exact .inl ⟨rfl, h2, rfl⟩
  · rw [List.getElem?_set_ne q] at h1 h3
    exact .inr ⟨fun e => q e.symm, s', h1, h2, h3⟩
/-- the name's store: the old state's step s, the value's result -/
theorem bnd_ok {τ0 : Sls} {σ0 : L2.St} {H0 F0 : Hp} {i : Nat} {v : V} {r : R} (k : Ok K F τ σ H) (s : Stp τ0 σ0 H0 F0 τ σ H F) (q : ROk K F H τ σ τ0 σ0 H0 v r) (e : bnd τ i r = some τ') :
    Ok K F τ' (σ.set i (some v)) H ∧ Stp τ0 σ0 H0 F0 τ' (σ.set i (some v)) H F := by
  have hl : i < τ.length ∧ (∀ d, τ[i]? ≠ some (.ln d)) ∧ τ' = τ.set i (if r.o = true then .ow r.d else .fr r.d) := by
    unfold bnd at e
    split at e
    · cases e
    · rename_i s' h1 h2
      cases e
      exact ⟨(List.getElem?_eq_some_iff.mp h2).1, fun d z => h1 d (Option.some.inj (h2.symm.trans z)), rfl⟩
    · cases e
  obtain ⟨hl, hln, e⟩ := hl
  have hσ : i < σ.length := by rw [← k.len]; exact hl
  refine ⟨⟨k.sub, by rw [e, List.length_set, List.length_set]; exact k.len, fun j sl x h1 h2 => ?_, fun a b p r1 r2 => ?_⟩, ⟨s.keep, s.dom, s.fr, s.new, fun p ⟨j, rj⟩ => ?_, fun j d h => ?_⟩⟩
  · subst e
    by_cases hj : i = j
    · subst hj
      rw [List.getElem?_set_self hl] at h1
      rw [List.getElem?_set_self hσ] at h2
      cases h1
      cases h2
      rcases q with ⟨e, q⟩ | ⟨e, p, rfl, q1, q2, q3, q4⟩
      · rw [e, if_neg Bool.false_ne_true]
        exact ⟨v, rfl, q⟩
      · rw [e, if_pos rfl]
        exact ⟨p, rfl, q1, q4⟩
    · rw [List.getElem?_set_ne hj] at h1 h2
      exact k.sl j sl x h1 h2
  · subst e
    have own : ∀ {p : Addr}, (if r.o = true then Sl.ow r.d else Sl.fr r.d).isRoot = true → v = .ref p → ¬ IsRoot τ σ p := fun {p} z1 z2 => by
      rcases q with ⟨e, q⟩ | ⟨e, p', e2, q1, q2, q3, q4⟩
      · rw [e, if_neg Bool.false_ne_true] at z1; cases z1
      · rw [e2] at z2; cases z2; exact q2
    rcases rootAt_set2 hl k.len r1 with ⟨a1, a2, a3⟩ | ⟨a1, a2⟩ <;> rcases rootAt_set2 hl k.len r2 with ⟨b1, b2, b3⟩ | ⟨b1, b2⟩
    · rw [a1, b1]
    · exact absurd ⟨b, b2⟩ (own a2 a3)
    · exact absurd ⟨a, a2⟩ (own b2 b3)
    · exact k.ne a b p a2 b2
  · subst e
    rcases rootAt_set2 hl k.len rj with ⟨a1, a2, a3⟩ | ⟨a1, a2⟩
    · rcases q with ⟨e, q⟩ | ⟨e, p', e2, q1, q2, q3, q4⟩
      · rw [e, if_neg Bool.false_ne_true] at a2; cases a2
      · rw [e2] at a3; cases a3; exact q3.symm
    · exact s.rt p ⟨j, a2⟩
  · subst e
    obtain ⟨⟨d', h1⟩, h2⟩ := s.ln j d h
    have ne : i ≠ j := fun z => by subst z; exact hln d' h1
    rw [List.getElem?_set_ne ne, List.getElem?_set_ne ne]
    exact ⟨⟨d', h1⟩, h2⟩
def asgS (i : Nat) (f : M R) : Sls → Option Out := fun τ => (f τ).bind fun p => (bnd p.2 i p.1).map .nx
theorem s_asg {te : TE} {f : M R} {i : Nat} (h : SE K te f) : SS K (tAsg te (gName i)) (asgS i f) := by
  intro τ out σ H F D e k c
  unfold asgS at e
  obtain ⟨p, h1, e⟩ := Option.bind_eq_some_iff.mp e
  obtain ⟨τ1, h2, e⟩ := Option.map_eq_some_iff.mp e
  cases e
  refine h τ p.2 p.1 σ H F _ h1 k fun v H' F' k' s' q => ?_
  obtain ⟨k2, s2⟩ := bnd_ok k' s' q h2
  exact c _ H' F' k2 s2

/-! ### targets, of what is laid down -/
/-- the slots that it binds are among L -/
def SG (K : PySem.W.Frag) (L : List Nat) (tg : TG) (g : T → Sls → Option Sls) : Prop := ∀ (d : T) (v : V) (τ τ' : Sls) (σ : L2.St) (H F : Hp) (Q : L2.St → Hp → Prop), g d τ = some τ' → Ok K F τ σ H → Rp K F v d →
  (∀ σ', Ok K F τ' σ' H → Stp τ σ H F τ' σ' H F → σ'.length = σ.length → (∀ j, j ∉ L → σ'[j]? = σ[j]?) → Q σ' H) → tg v σ H Q
def gN (i : Nat) : T → Sls → Option Sls := fun d τ => bnd τ i ⟨d, false⟩
theorem s_gN {i : Nat} : SG K [i] (gName i) (gN i) := by
  intro d v τ τ' σ H F Q e k r c
  obtain ⟨k2, s2⟩ := bnd_ok (τ0 := τ) (σ0 := σ) (H0 := H) (F0 := F) k .refl (.inl ⟨rfl, r⟩) e
  refine c _ k2 s2 (by rw [List.length_set]) fun j hj => ?_
  rw [List.getElem?_set_ne (fun z => hj (by simp [z]))]
structure SGs (K : PySem.W.Frag) (L : List Nat) (tg : TGs) (n : Nat) (g : List T → Sls → Option Sls) : Prop where
  len : ∀ ds τ τ', g ds τ = some τ' → ds.length = n
  run : ∀ (ds : List T) (vs : List V) (τ τ' : Sls) (σ : L2.St) (H F : Hp) (Q : L2.St → Hp → Prop), g ds τ = some τ' → Ok K F τ σ H → RpA K F vs ds →
    (∀ σ', Ok K F τ' σ' H → Stp τ σ H F τ' σ' H F → σ'.length = σ.length → (∀ j, j ∉ L → σ'[j]? = σ[j]?) → Q σ' H) → tg vs σ H Q
def gsNil : List T → Sls → Option Sls := fun ds τ => match ds with
  | [] => some τ
  | _ => none
def gsCons (f : T → Sls → Option Sls) (g : List T → Sls → Option Sls) : List T → Sls → Option Sls := fun ds τ => match ds with
  | d :: r => (f d τ).bind fun τ1 => g r τ1
  | [] => none
def gT (g : List T → Sls → Option Sls) : T → Sls → Option Sls := fun d τ => match d with
  | .tup ds => g ds τ
  | _ => none
theorem s_gsNil : SGs K [] gNil 0 gsNil := by
  refine ⟨fun ds τ τ' e => ?_, fun ds vs τ τ' σ H F Q e k r c => ?_⟩
  · unfold gsNil at e
    split at e
    · rfl
    · cases e
  · unfold gsNil at e
    split at e
    · cases e
      cases r
      exact ⟨rfl, c σ k .refl rfl fun _ _ => rfl⟩
    · cases e
theorem s_gsCons {L L' : List Nat} {n : Nat} {t : TG} {u : TGs} {f : T → Sls → Option Sls} {g : List T → Sls → Option Sls} (h : SG K L t f) (h' : SGs K L' u n g) : SGs K (L ++ L') (gCons t u) (n + 1) (gsCons f g) := by
  refine ⟨fun ds τ τ' e => ?_, fun ds vs τ τ' σ H F Q e k r c => ?_⟩
  · unfold gsCons at e
    split at e
    · obtain ⟨τ1, h1, e⟩ := Option.bind_eq_some_iff.mp e
      exact congrArg Nat.succ (h'.len _ _ _ e)
    · cases e
  · unfold gsCons at e
    split at e
    · obtain ⟨τ1, h1, e⟩ := Option.bind_eq_some_iff.mp e
      cases r with
      | cons a b =>
        refine ⟨_, _, rfl, h _ _ τ τ1 σ H F _ h1 k a fun σ1 k1 s1 l1 o1 => h'.run _ _ τ1 τ' σ1 H F Q e k1 b fun σ2 k2 s2 l2 o2 => ?_⟩
        refine c σ2 k2 (s1.trans s2) (l2.trans l1) fun j hj => ?_
        rw [List.mem_append, not_or] at hj
        rw [o2 j hj.2, o1 j hj.1]
    · cases e
theorem s_gT {L : List Nat} {n : Nat} {t : TGs} {g : List T → Sls → Option Sls} (h : SGs K L t n g) : SG K L (gTup K n t) (gT g) := by
  intro d v τ τ' σ H F Q e k r c
  unfold gT at e
  split at e
  · cases r with
    | tup h1 a => exact ⟨_, _, rfl, SqT.of (k.sub _ _ h1), by rw [a.length]; exact h.len _ _ _ e, h.run _ _ τ τ' σ H F Q e k a c⟩
  · cases e
end
structure EG (X : Cx) (tg : Expr) (t : TG) (L : List Nat) (g : T → Sls → Option Sls) : Prop where
  pe : PG X tg t
  s : SG X.K L t g
structure EGs (X : Cx) (tg : List Expr) (t : TGs) (L : List Nat) (n : Nat) (g : List T → Sls → Option Sls) : Prop where
  pe : PGs X tg t
  s : SGs X.K L t n g

/-! ### what is walked -/
def Yld (K : PySem.W.Frag) (J : It) (F : Hp) (ds : List T) : Prop := (∀ H, Same F H → J.stop ds.length H) ∧
  ∀ (i : Nat) (d : T) (H F1 : Hp), ds[i]? = some d → Same F F1 → Same F1 H → J.go i H ∧ ∀ x H', J.yld i H x H' → ∃ F2, Grow H F1 H' F2 ∧ Rp K F2 x d
def SI (K : PySem.W.Frag) (wi : TI) (f : M (List T)) : Prop := ∀ (τ τ' : Sls) (ds : List T) (σ : L2.St) (H F : Hp) (R : It → Hp → Prop), f τ = some (ds, τ') → Ok K F τ σ H →
  (∀ J H' F', Ok K F' τ' σ H' → Stp τ σ H F τ' σ H' F' → Yld K J F' ds → R J H') → wi σ H R
structure EI (X : Cx) (tg e : Expr) (wi : TI) (f : M (List T)) : Prop where
  pe : PI X tg e wi
  s : SI X.K wi f
def lstI (f : M T) : M (List T) := fun τ => (f τ).bind fun p => (p.1.seqL).map fun ds => (ds, p.2)
def tupI (f : M T) : M (List T) := fun τ => (f τ).bind fun p => match p.1 with
  | .tup ds => some (ds, p.2)
  | _ => none
theorem s_lstI {K : PySem.W.Frag} {te : TE} {f : M T} (h : SV K te f) : SI K (iList K te) (lstI f) := by
  intro τ τ' ds σ H F R e k c
  unfold lstI at e
  obtain ⟨p, h1, e⟩ := Option.bind_eq_some_iff.mp e
  obtain ⟨ds', h2, e⟩ := Option.map_eq_some_iff.mp e
  cases e
  refine h τ p.2 p.1 σ H F _ h1 k fun v H1 F1 k1 s1 r1 => ?_
  obtain ⟨a, vs, rfl, hq, ra⟩ := Lk.seqL (H := F1) (fun _ _ z => z) (.inl r1) h2
  refine ⟨a, rfl, ⟨vs, k1.sub.seq hq⟩, c _ H1 F1 k1 s1 ⟨fun H2 s2 => ⟨vs, s2.seq hq, by rw [ra.length]; exact Nat.le_refl _⟩, fun i d H2 F2 hi s2 s3 => ?_⟩⟩
  obtain ⟨v, hv, rv⟩ := ra.get hi
  have hq2 : SqL K H2 a vs := s3.seq (s2.seq hq)
  refine ⟨⟨vs, v, hq2, hv⟩, fun x H3 y => ?_⟩
  obtain ⟨e1, e2⟩ := y
  subst e1
  have e3 := e2 vs hq2
  rw [hv] at e3
  cases e3
  exact ⟨F2, .refl s3, rv.mono s2⟩
theorem s_tupI {K : PySem.W.Frag} {te : TE} {f : M T} (h : SV K te f) : SI K (iTup K te) (tupI f) := by
  intro τ τ' ds σ H F R e k c
  unfold tupI at e
  obtain ⟨p, h1, e⟩ := Option.bind_eq_some_iff.mp e
  split at e
  · rename_i ds' h2
    cases e
    refine h τ p.2 p.1 σ H F _ h1 k fun v H1 F1 k1 s1 r1 => ?_
    rw [h2] at r1
    cases r1 with
    | tup hq ra =>
      rename_i a vs
      refine ⟨a, rfl, ⟨vs, SqT.of (k1.sub _ _ hq)⟩, c _ H1 F1 k1 s1 ⟨fun H2 s2 => ⟨vs, SqT.of (s2 _ _ hq), by rw [ra.length]; exact Nat.le_refl _⟩, fun i d H2 F2 hi s2 s3 => ?_⟩⟩
      obtain ⟨v, hv, rv⟩ := ra.get hi
      have hq2 : SqT K H2 a vs := SqT.of (s3 _ _ (s2 _ _ hq))
      refine ⟨⟨vs, v, hq2, hv⟩, fun x H3 y => ?_⟩
      obtain ⟨e1, e2⟩ := y
      subst e1
      have e3 := e2 vs hq2
      rw [hv] at e3
      cases e3
      exact ⟨F2, .refl s3, rv.mono s2⟩
  · cases e
/-- lo, lo + 1, .. -/
def rngT (lo : Int) : Nat → List T
  | 0 => []
  | n + 1 => .int lo :: rngT (lo + 1) n
theorem rngT_length : ∀ (n : Nat) (lo : Int), (rngT lo n).length = n
  | 0, _ => rfl
  | n + 1, lo => congrArg Nat.succ (rngT_length n _)
theorem rngT_get : ∀ (n : Nat) (lo : Int) (i : Nat), i < n → (rngT lo n)[i]? = some (.int (lo + i))
  | 0, _, _, h => absurd h (Nat.not_lt_zero _)
  | n + 1, lo, 0, _ => by simp [rngT]
  | n + 1, lo, i + 1, h => by
    rw [rngT, List.getElem?_cons_succ, rngT_get n (lo + 1) i (by omega)]
    congr 2
    omega
theorem yld_rng {K : PySem.W.Frag} {F : Hp} {lo : Int} {n : Nat} : Yld K (Itr lo n) F (rngT lo n) := by
  refine ⟨fun H _ => Nat.le_of_eq (rngT_length n lo).symm, fun i d H F1 hi s1 s2 => ?_⟩
  have hl : i < n := by
    have := (List.getElem?_eq_some_iff.mp hi).1
    rw [rngT_length] at this
    exact this
  rw [rngT_get n lo i hl] at hi
  cases hi
  refine ⟨hl, fun x H' y => ?_⟩
  obtain ⟨rfl, rfl⟩ := y
  exact ⟨F1, .refl s2, .int _⟩
def rgOk (i : Int) : Bool := Nat.ble i.natAbs 4611686018427387903
theorem rgOk_spec {i : Int} (h : rgOk i = true) : -(2 ^ 62) ≤ i ∧ i < 2 ^ 62 := by
  have h := Nat.le_of_ble_eq_true h
  have e : (2 : Int) ^ 62 = 4611686018427387904 := by decide
  rw [e]
  omega
def rng1 (f : M (List (Sls → Option T))) : M (List T) := fun τ => (f τ).bind fun p => (allRd p.1 p.2).bind fun ds => match ds with
  | [.int j] => if rgOk j then some (rngT 0 j.toNat, p.2) else none
  | _ => none
def rng2 (f : M (List (Sls → Option T))) : M (List T) := fun τ => (f τ).bind fun p => (allRd p.1 p.2).bind fun ds => match ds with
  | [.int i, .int j] => if rgOk i && rgOk j then some (rngT i (j - i).toNat, p.2) else none
  | _ => none
theorem s_rng1 {K : PySem.W.Frag} {ta : TA} {f : M (List (Sls → Option T))} (h : SAO K ta f) : SI K (iRng1 ta) (rng1 f) := by
  intro τ τ' ds σ H F R e k c
  unfold rng1 at e
  obtain ⟨p, h1, e⟩ := Option.bind_eq_some_iff.mp e
  obtain ⟨as, h2, e⟩ := Option.bind_eq_some_iff.mp e
  split at e
  · rename_i j
    split at e
    · rename_i hz
      cases e
      have hz := rgOk_spec hz
      refine h τ p.2 p.1 σ H F _ h1 k fun vs H1 F1 k1 s1 l1 => ?_
      cases l1 _ _ _ _ k1 .refl h2 with
      | cons a b =>
        cases b
        rw [a.int]
        exact ⟨j, rfl, hz.1, hz.2, c _ H1 F1 k1 s1 yld_rng⟩
    · cases e
  · cases e
theorem s_rng2 {K : PySem.W.Frag} {ta : TA} {f : M (List (Sls → Option T))} (h : SAO K ta f) : SI K (iRng2 ta) (rng2 f) := by
  intro τ τ' ds σ H F R e k c
  unfold rng2 at e
  obtain ⟨p, h1, e⟩ := Option.bind_eq_some_iff.mp e
  obtain ⟨as, h2, e⟩ := Option.bind_eq_some_iff.mp e
  split at e
  · rename_i i j
    split at e
    · rename_i hz
      cases e
      have hz := And.intro (rgOk_spec (Bool.and_eq_true_iff.mp hz).1) (rgOk_spec (Bool.and_eq_true_iff.mp hz).2)
      refine h τ p.2 p.1 σ H F _ h1 k fun vs H1 F1 k1 s1 l1 => ?_
      cases l1 _ _ _ _ k1 .refl h2 with
      | cons a b =>
        cases b with
        | cons b b' =>
          cases b'
          rw [a.int, b.int]
          exact ⟨i, j, rfl, ⟨hz.1.1, hz.1.2, hz.2.1, hz.2.2⟩, c _ H1 F1 k1 s1 yld_rng⟩
    · cases e
  · cases e

/-! ### for -/
def loopS (g : T → Sls → Option Sls) (body : Sls → Option Out) : List T → Sls → Option Out
  | [], τ => some (.nx τ)
  | d :: r, τ => (g d τ).bind fun τ1 => (body τ1).bind fun o => match o with
    | .nx τ2 => loopS g body r τ2
    | .ct τ2 => loopS g body r τ2
    | .bk τ2 => some (.nx τ2)
    | .rt x τ2 => some (.rt x τ2)
def forS (it : M (List T)) (g : T → Sls → Option Sls) (body : Sls → Option Out) : Sls → Option Out := fun τ => (it τ).bind fun p => loopS g body p.1 p.2
theorem s_for {K : PySem.W.Frag} {wi : TI} {t : TG} {L : List Nat} {tb : TS} {it : M (List T)} {g : T → Sls → Option Sls} {body : Sls → Option Out} (hi : SI K wi it) (hg : SG K L t g) (hb : SS K tb body) : SS K (tFor wi t tb) (forS it g body) := by
  intro τ out σ H F D e k c
  unfold forS at e
  obtain ⟨p, h1, e⟩ := Option.bind_eq_some_iff.mp e
  obtain ⟨ds, τ1⟩ := p
  refine hi τ τ1 ds σ H F _ h1 k fun J H1 F1 k1 s1 y1 => ?_
  refine ⟨fun i m σ' H' => m = ds.length - i ∧ i ≤ ds.length ∧ ∃ τ' F', Ok K F' τ' σ' H' ∧ Stp τ σ H F τ' σ' H' F' ∧ Same F1 F' ∧ loopS g body (ds.drop i) τ' = some out, ⟨_, rfl, Nat.zero_le _, τ1, F1, k1, s1, (fun _ _ z => z), e⟩, ?_⟩
  rintro i m σ' H' ⟨rfl, hle, τ', F', k', s', sF, e'⟩
  by_cases hlt : i < ds.length
  · have hd : ds[i]? = some ds[i] := List.getElem?_eq_getElem hlt
    rw [List.drop_eq_getElem_cons hlt, loopS] at e'
    obtain ⟨τ2, h2, e'⟩ := Option.bind_eq_some_iff.mp e'
    obtain ⟨o, h3, e'⟩ := Option.bind_eq_some_iff.mp e'
    obtain ⟨go, yl⟩ := y1.2 i _ H' F' hd sF k'.sub
    refine .inr ⟨go, fun σ3 H3 => ∃ τ3 F3, Ok K F3 τ3 σ3 H3 ∧ Stp τ σ H F τ3 σ3 H3 F3 ∧ Same F1 F3 ∧ loopS g body (ds.drop (i + 1)) τ3 = some out,
      fun σ3 H3 ⟨τ3, F3, q1, q2, q3, q4⟩ => ⟨ds.length - (i + 1), by omega, rfl, hlt, τ3, F3, q1, q2, q3, q4⟩, fun x H2 y => ?_⟩
    obtain ⟨F2, g2, r2⟩ := yl x H2 y
    refine hg _ x τ' τ2 σ' H2 F2 _ h2 (k'.grow g2) r2 fun σ4 k4 s4 _ _ => ?_
    have st : Stp τ σ H F τ2 σ4 H2 F2 := s'.trans (g2.step.trans s4)
    refine hb τ2 o σ4 H2 F2 _ h3 k4 ?_
    cases o with
    | nx τ5 => exact fun σ5 H5 F5 k5 s5 => ⟨τ5, F5, k5, st.trans s5, sF.trans (g2.ff.trans s5.fr), e'⟩
    | ct τ5 => exact fun σ5 H5 F5 k5 s5 => ⟨τ5, F5, k5, st.trans s5, sF.trans (g2.ff.trans s5.fr), e'⟩
    | bk τ5 =>
      cases e'
      exact fun σ5 H5 F5 k5 s5 => c σ5 H5 F5 k5 (st.trans s5)
    | rt r τ5 =>
      cases e'
      exact fun v σ5 H5 F5 k5 s5 q => c v σ5 H5 F5 k5 (st.trans s5) (q.back st)
  · have hi : i = ds.length := by omega
    subst hi
    rw [List.drop_length] at e'
    cases e'
    exact .inl ⟨y1.1 H' (sF.trans k'.sub), c σ' H' F' k' s'⟩

/-! ### while -/
def whS (c : M Bool) (b : Sls → Option Out) : Nat → Sls → Option Out
  | 0, _ => none
  | n + 1, τ => (c τ).bind fun p => if p.1 = true then (b p.2).bind fun o => match o with
      | .nx τ2 => whS c b n τ2
      | .ct τ2 => whS c b n τ2
      | .bk τ2 => some (.nx τ2)
      | .rt x τ2 => some (.rt x τ2)
    else some (.nx p.2)
theorem s_while {K : PySem.W.Frag} {tc : TT} {tb : TS} {c : M Bool} {b : Sls → Option Out} {n : Nat} (hc : SB K tc c) (hb : SS K tb b) : SS K (tWhile tc tb) (whS c b n) := by
  intro τ out σ H F D e k cc
  refine ⟨fun m σ' H' => ∃ τ' F', Ok K F' τ' σ' H' ∧ Stp τ σ H F τ' σ' H' F' ∧ whS c b m τ' = some out, ⟨n, τ, F, k, .refl, e⟩, ?_⟩
  rintro m σ' H' ⟨τ', F', k', s', e'⟩
  cases m with
  | zero => cases e'
  | succ m =>
    rw [whS] at e'
    obtain ⟨p, h1, e'⟩ := Option.bind_eq_some_iff.mp e'
    refine hc τ' p.2 p.1 σ' H' F' _ h1 k' fun H2 F2 k2 s2 => ?_
    have st := s'.trans s2
    by_cases hp : p.1 = true
    · rw [if_pos hp] at e' ⊢
      obtain ⟨o, h2, e'⟩ := Option.bind_eq_some_iff.mp e'
      refine ⟨fun σ3 H3 => ∃ τ3 F3, Ok K F3 τ3 σ3 H3 ∧ Stp τ σ H F τ3 σ3 H3 F3 ∧ whS c b m τ3 = some out, fun σ3 H3 q => ⟨m, Nat.lt_succ_self m, q⟩, hb p.2 o σ' H2 F2 _ h2 k2 ?_⟩
      cases o with
      | nx τ5 => exact fun σ5 H5 F5 k5 s5 => ⟨τ5, F5, k5, st.trans s5, e'⟩
      | ct τ5 => exact fun σ5 H5 F5 k5 s5 => ⟨τ5, F5, k5, st.trans s5, e'⟩
      | bk τ5 =>
        cases e'
        exact fun σ5 H5 F5 k5 s5 => cc σ5 H5 F5 k5 (st.trans s5)
      | rt r τ5 =>
        cases e'
        exact fun v σ5 H5 F5 k5 s5 q => cc v σ5 H5 F5 k5 (st.trans s5) (q.back st)
    · rw [if_neg hp] at e' ⊢
      cases e'
      exact cc σ' H2 F2 k2 st
end TR

namespace TR
open PySem L2

/-! ### comprehensions -/
def wipeT (own : List Nat) (τ : Sls) : Sls := mapI (fun j s => if own.contains j = true then .no else s) 0 τ
def restT (own : List Nat) (τ0 τ1 : Sls) : Sls := mapI (fun j s => if own.contains j = true then (τ0[j]?).getD .no else s) 0 τ1
def lcL (g : T → Sls → Option Sls) (cnd : M Bool) (elt : M T) (own : List Nat) : List T → Sls → Option (List T × Sls)
  | [], τ => some ([], τ)
  | d :: r, τ => (g d τ).bind fun τ1 => (cnd τ1).bind fun p =>
      if p.1 = true then (elt p.2).bind fun q => (lcL g cnd elt own r (wipeT own q.2)).map fun z => (q.1 :: z.1, z.2)
      else lcL g cnd elt own r (wipeT own p.2)
def lcE (it : M (List T)) (g : T → Sls → Option Sls) (cnd : M Bool) (elt : M T) (own : List Nat) : M R := fun τ =>
  (it τ).bind fun p => (lcL g cnd elt own p.1 (wipeT own p.2)).bind fun q => if q.1.length ≤ sizeLine then some (⟨.lst q.1, true⟩, restT own p.2 q.2) else none
theorem wipe_get {σ : L2.St} {j : Nat} : ∀ {vs : List Nat}, j ∉ vs → (wipe σ vs)[j]? = σ[j]?
  | [], _ => rfl
  | v :: vs, h => by
    rw [List.mem_cons, not_or] at h
    unfold wipe
    rw [List.getElem?_set_ne (fun z => h.1 z.symm)]
    exact wipe_get h.2
theorem wipe_own {σ : L2.St} {j : Nat} {x : V} {vs : List Nat} (h : j ∈ vs) : (wipe σ vs)[j]? ≠ some (some x) := fun z => (wipe_some z).2 h
theorem wipe_eq {σ σ' : L2.St} (hl : σ'.length = σ.length) : ∀ {vs L : List Nat}, (∀ j ∈ L, j ∈ vs) → (∀ j, j ∉ L → σ'[j]? = σ[j]?) → wipe σ' vs = wipe σ vs := fun {vs L} hL ho => by
  have key : ∀ (τ τ' : L2.St), τ'.length = τ.length → ∀ (us : List Nat), (∀ j, j ∉ us → τ'[j]? = τ[j]?) → wipe τ' us = wipe τ us := by
    intro τ τ' hl us
    induction us generalizing τ τ' with
    | nil =>
      intro h
      exact List.ext_getElem? fun j => h j (by simp)
    | cons u us ih =>
      intro h
      show (wipe τ' us).set u none = (wipe τ us).set u none
      have e1 : wipe τ' (u :: us) = wipe (τ'.set u none) us := by
        show (wipe τ' us).set u none = wipe (τ'.set u none) us
        clear ih h hl
        induction us with
        | nil => rfl
        | cons w us ih =>
          show ((wipe τ' us).set w none).set u none = (wipe (τ'.set u none) us).set w none
          rw [← ih]
          by_cases q : w = u
          · subst q; rfl
          · exact List.set_comm _ _ q
      have e2 : wipe τ (u :: us) = wipe (τ.set u none) us := by
        show (wipe τ us).set u none = wipe (τ.set u none) us
        clear ih h hl e1
        induction us with
        | nil => rfl
        | cons w us ih =>
          show ((wipe τ us).set w none).set u none = (wipe (τ.set u none) us).set w none
          rw [← ih]
          by_cases q : w = u
          · subst q; rfl
          · exact List.set_comm _ _ q
      show wipe τ' (u :: us) = wipe τ (u :: us)
      rw [e1, e2]
      refine ih _ _ (by rw [List.length_set, List.length_set]; exact hl) fun j hj => ?_
      by_cases q : u = j
      · subst q
        by_cases hu : u < τ.length
        · rw [List.getElem?_set_self hu, List.getElem?_set_self (by omega)]
        · rw [List.getElem?_eq_none (by simp; omega), List.getElem?_eq_none (by simp; omega)]
      · rw [List.getElem?_set_ne q, List.getElem?_set_ne q]
        exact h j (by simp [hj]; exact fun z => q z.symm)
  exact key σ σ' hl vs fun j hj => ho j fun z => hj (hL j z)
section
variable {K : PySem.W.Frag} {F H F1 H1 F' H' : Hp} {τ τ0 τ1 τ' : Sls} {σ σ0 σ' : L2.St} {own : List Nat}
theorem wipeT_get {j : Nat} : (wipeT own τ)[j]? = (τ[j]?).map fun s => if own.contains j = true then .no else s := by
  unfold wipeT
  rw [mapI_get, Nat.zero_add]
theorem restT_get {j : Nat} : (restT own τ0 τ1)[j]? = (τ1[j]?).map fun s => if own.contains j = true then (τ0[j]?).getD .no else s := by
  unfold restT
  rw [mapI_get, Nat.zero_add]
theorem wipeT_len : (wipeT own τ).length = τ.length := mapI_length _ _ _
theorem wipeT_rootAt {j : Nat} {p : Addr} (r : RootAt (wipeT own τ) (wipe σ own) j p) : j ∉ own ∧ RootAt τ σ j p := by
  obtain ⟨s, h1, h2, h3⟩ := r
  have hj := (wipe_some h3).2
  rw [wipeT_get] at h1
  obtain ⟨s', e, h1⟩ := Option.map_eq_some_iff.mp h1
  have hc : ¬ own.contains j = true := by simpa using hj
  rw [if_neg hc] at h1
  subst h1
  exact ⟨hj, s', e, h2, (wipe_some h3).1⟩
theorem Ok.wipe (k : Ok K F τ σ H) : Ok K F (wipeT own τ) (L2.wipe σ own) H := by
  refine ⟨k.sub, by rw [wipeT_len, wipe_length]; exact k.len, fun j s x h1 h2 => ?_, fun i j p r1 r2 => k.ne i j p (wipeT_rootAt r1).2 (wipeT_rootAt r2).2⟩
  rw [wipeT_get] at h1
  obtain ⟨s', e, h1⟩ := Option.map_eq_some_iff.mp h1
  by_cases hj : j ∈ own
  · rw [if_pos (by simpa using hj)] at h1
    subst h1
    trivial
  · rw [if_neg (by simpa using hj)] at h1
    subst h1
    rw [wipe_get hj] at h2
    exact k.sl j _ x e h2
theorem Stp.wipe (s : Stp (wipeT own τ0) (L2.wipe σ0 own) H F τ1 σ' H1 F1) : Stp (wipeT own τ0) (L2.wipe σ0 own) H F (wipeT own τ1) (L2.wipe σ' own) H1 F1 := by
  refine ⟨s.keep, s.dom, s.fr, s.new, fun p ⟨j, r⟩ => s.rt p ⟨j, (wipeT_rootAt r).2⟩, fun i d h => ?_⟩
  obtain ⟨⟨d', e1⟩, e2⟩ := s.ln i d h
  have hi : i ∉ own := fun z => by
    rw [wipeT_get] at h
    obtain ⟨s', e, h⟩ := Option.map_eq_some_iff.mp h
    rw [if_pos (by simpa using z)] at h
    cases h
  refine ⟨⟨d', ?_⟩, ?_⟩
  · rw [wipeT_get, e1, Option.map_some, if_neg (by simpa using hi)]
  · rw [wipe_get hi]
    exact e2
/-- an object of no slot is changed -/
theorem Ok.mut {D : Addr} {o : HO} (k : Ok K F τ σ H) (hF : F D = none) (nr : ¬ IsRoot τ σ D) : Ok K F τ σ (L2.upd H D o) := by
  refine ⟨fun b u e => by rw [upd_ne (ne_of_none e hF)]; exact k.sub b u e, k.len, fun i s x h1 h2 => ?_, k.ne⟩
  have q := k.sl i s x h1 h2
  cases s with
  | no => trivial
  | fr d => exact q
  | ow d =>
    obtain ⟨p, e, a, b⟩ := q
    have ne : p ≠ D := fun z => nr ⟨i, _, h1, rfl, by rw [h2, e, z]⟩
    exact ⟨p, e, a, b.mono (fun _ _ z => z) (upd_ne ne)⟩
  | ln d =>
    obtain ⟨p, e, a, b⟩ := q
    have ne : p ≠ D := fun z => nr ⟨i, _, h1, rfl, by rw [h2, e, z]⟩
    exact ⟨p, e, a, b.mono (fun _ _ z => z) (upd_ne ne)⟩
theorem Stp.mut {D : Addr} {o : HO} (s : Stp τ σ H F τ1 σ' H1 F1) (hD : H D = none) : Stp τ σ H F τ1 σ' (L2.upd H1 D o) F1 := by
  refine ⟨fun b u e n => by rw [upd_ne (ne_of_none e hD)]; exact s.keep b u e n, fun b u e => ?_, s.fr, s.new, s.rt, s.ln⟩
  rw [upd_ne (ne_of_none e hD)]
  exact s.dom b u e
theorem Stp.free2 (s : Stp τ σ H F τ1 σ' H1 F1) {D : Addr} {o : HO} (hF : F D = none) (hH : H D = some o) (nr : ¬ IsRoot τ σ D) : F1 D = none ∧ H1 D = some o ∧ ¬ IsRoot τ1 σ' D := by
  refine ⟨?_, s.keep D o hH nr, fun z => ?_⟩
  · cases q : F1 D with
    | none => rfl
    | some u =>
      rcases s.new D u q with z | z | z
      · rw [hF] at z; cases z
      · rw [hH] at z; cases z
      · exact absurd z nr
  · rcases s.rt D z with z | z
    · exact nr z
    · rw [hH] at z; cases z
/-- behind the block: its own names as they were ahead of it -/
theorem rest_ok (k : Ok K F1 τ1 σ H1) (k' : Ok K F' τ' (L2.wipe σ own) H') (s : Stp (wipeT own τ1) (L2.wipe σ own) H1 F1 τ' (L2.wipe σ own) H' F') :
    Ok K F' (restT own τ1 τ') σ H' ∧ Stp τ1 σ H1 F1 (restT own τ1 τ') σ H' F' := by
  have hlen : τ'.length = τ1.length := by rw [k'.len, wipe_length, k.len]
  -- what a slot behind the block is
  have at_ : ∀ {j : Nat} {sl : Sl}, (restT own τ1 τ')[j]? = some sl → (j ∈ own ∧ τ1[j]? = some sl) ∨ (j ∉ own ∧ τ'[j]? = some sl) := fun {j sl} h => by
    rw [restT_get] at h
    obtain ⟨s', e, h⟩ := Option.map_eq_some_iff.mp h
    by_cases hj : j ∈ own
    · rw [if_pos (by simpa using hj)] at h
      have hl : j < τ1.length := by
        have := (List.getElem?_eq_some_iff.mp e).1
        omega
      rw [List.getElem?_eq_getElem hl] at h
      exact .inl ⟨hj, by rw [List.getElem?_eq_getElem hl]; exact congrArg some h⟩
    · rw [if_neg (by simpa using hj)] at h
      subst h
      exact .inr ⟨hj, e⟩
  have rootR : ∀ {j : Nat} {p : Addr}, RootAt (restT own τ1 τ') σ j p → (j ∈ own ∧ RootAt τ1 σ j p) ∨ (j ∉ own ∧ RootAt τ' (L2.wipe σ own) j p) := fun {j p} ⟨sl, h1, h2, h3⟩ => by
    rcases at_ h1 with ⟨hj, e⟩ | ⟨hj, e⟩
    · exact .inl ⟨hj, sl, e, h2, h3⟩
    · exact .inr ⟨hj, sl, e, h2, by rw [wipe_get hj]; exact h3⟩
  have nr : ∀ {j : Nat} {p : Addr}, j ∈ own → RootAt τ1 σ j p → ¬ IsRoot (wipeT own τ1) (L2.wipe σ own) p := fun {j p} hj r ⟨i, q⟩ => by
    obtain ⟨hi, q⟩ := wipeT_rootAt q
    exact hi (k.ne i j p q r ▸ hj)
  refine ⟨⟨k'.sub, by unfold restT; rw [mapI_length, k'.len, wipe_length], fun j sl x h1 h2 => ?_, fun i j p r1 r2 => ?_⟩, ⟨fun b o h n => s.keep b o h fun ⟨j, r⟩ => n ⟨j, (wipeT_rootAt r).2⟩, s.dom, s.fr,
    fun b o h => (s.new b o h).imp id fun z => z.imp id fun ⟨j, r⟩ => ⟨j, (wipeT_rootAt r).2⟩, fun p ⟨j, r⟩ => ?_, fun i d h => ⟨?_, rfl⟩⟩⟩
  · rcases at_ h1 with ⟨hj, e⟩ | ⟨hj, e⟩
    · have q := k.sl j sl x e h2
      have own' : ∀ {p : Addr} {d : T}, sl.isRoot = true → x = some (.ref p) → F1 p = none → Own K F1 H1 p d → F' p = none ∧ Own K F' H' p d := fun {p d} z1 z2 z3 z4 => by
        obtain ⟨o, ho⟩ := z4.there
        obtain ⟨f1, f2, _⟩ := s.free2 z3 ho (nr hj ⟨sl, e, z1, by rw [h2, z2]⟩)
        exact ⟨f1, z4.mono s.fr (f2.trans ho.symm)⟩
      cases sl with
      | no => trivial
      | fr d =>
        obtain ⟨v, e, r⟩ := q
        exact ⟨v, e, r.mono s.fr⟩
      | ow d =>
        obtain ⟨p, e, a, b⟩ := q
        exact ⟨p, e, own' rfl e a b⟩
      | ln d =>
        obtain ⟨p, e, a, b⟩ := q
        exact ⟨p, e, own' rfl e a b⟩
    · exact k'.sl j sl x e (by rw [wipe_get hj]; exact h2)
  · have mix : ∀ {i j : Nat}, i ∈ own → RootAt τ1 σ i p → RootAt τ' (L2.wipe σ own) j p → False := fun {i j} hi r q => by
      rcases s.rt p ⟨j, q⟩ with z | z
      · exact nr hi r z
      · obtain ⟨_, _, o⟩ := k.root r
        obtain ⟨u, hu⟩ := o.there
        rw [hu] at z; cases z
    rcases rootR r1 with ⟨hi, a⟩ | ⟨hi, a⟩ <;> rcases rootR r2 with ⟨hj, b⟩ | ⟨hj, b⟩
    · exact k.ne i j p a b
    · exact (mix hi a b).elim
    · exact (mix hj b a).elim
    · exact k'.ne i j p a b
  · rcases rootR r with ⟨hj, a⟩ | ⟨hj, a⟩
    · exact .inl ⟨j, a⟩
    · exact (s.rt p ⟨j, a⟩).imp (fun ⟨i, r⟩ => ⟨i, (wipeT_rootAt r).2⟩) id
  · have hl : i < τ'.length := by
      have := (List.getElem?_eq_some_iff.mp h).1
      omega
    by_cases hi : i ∈ own
    · refine ⟨d, ?_⟩
      rw [restT_get, List.getElem?_eq_getElem hl, Option.map_some, if_pos (by simpa using hi), h]
      rfl
    · obtain ⟨⟨d', e1⟩, _⟩ := s.ln i d (by rw [wipeT_get, h, Option.map_some, if_neg (by simpa using hi)])
      refine ⟨d', ?_⟩
      rw [restT_get, e1, Option.map_some, if_neg (by simpa using hi)]
end
theorem rest_root {τ1 τ' : Sls} {σ : L2.St} {own : List Nat} {p : Addr} (hlen : τ'.length = τ1.length) (h : IsRoot (restT own τ1 τ') σ p) : IsRoot τ1 σ p ∨ IsRoot τ' (wipe σ own) p := by
  obtain ⟨j, sl, h1, h2, h3⟩ := h
  rw [restT_get] at h1
  obtain ⟨s', e, h1⟩ := Option.map_eq_some_iff.mp h1
  by_cases hj : j ∈ own
  · rw [if_pos (by simpa using hj)] at h1
    have hl : j < τ1.length := by
      have := (List.getElem?_eq_some_iff.mp e).1
      omega
    rw [List.getElem?_eq_getElem hl] at h1
    exact .inl ⟨j, sl, by rw [List.getElem?_eq_getElem hl]; exact congrArg some h1, h2, h3⟩
  · rw [if_neg (by simpa using hj)] at h1
    subst h1
    exact .inr ⟨j, _, e, h2, by rw [wipe_get hj]; exact h3⟩
theorem lcL_run {K : PySem.W.Frag} {wi : TI} {t : TG} {L own : List Nat} {tt : TT} {te : TE} {it : M (List T)} {g : T → Sls → Option Sls} {cnd : M Bool} {elt : M T} (hi : SI K wi it) (hg : SG K L t g) (ht : SB K tt cnd) (he : SV K te elt) (hL : ∀ j ∈ L, j ∈ own) :
    SE K (tLc wi t tt te own) (lcE it g cnd elt own) := by
  intro τ τ' res σ H F Q e k c
  unfold lcE at e
  obtain ⟨p, h1, e⟩ := Option.bind_eq_some_iff.mp e
  obtain ⟨q, h2, e⟩ := Option.bind_eq_some_iff.mp e
  obtain ⟨ds, τ1⟩ := p
  obtain ⟨ys, τe⟩ := q
  dsimp only at h2 e
  split at e
  · rename_i hz
    cases e
    refine hi τ τ1 ds σ H F _ h1 k fun J H1 F1 k1 s1 y1 D hD => ?_
    obtain ⟨fD, rD⟩ := k1.fresh hD
    have rD0 : ¬ IsRoot (wipeT own τ1) (wipe σ own) D := fun ⟨j, r⟩ => rD ⟨j, (wipeT_rootAt r).2⟩
    refine ⟨fun i m H' => m = ds.length - i ∧ i ≤ ds.length ∧ ∃ (τ' : Sls) (F' : Hp) (vs : List V) (acc rest : List T), Ok K F' τ' (wipe σ own) H' ∧ Stp (wipeT own τ1) (wipe σ own) H1 F1 τ' (wipe σ own) H' F' ∧ F' D = none ∧ H' D = some (.lst vs) ∧ ¬ IsRoot τ' (wipe σ own) D ∧
      RpA K F' vs acc ∧ acc ++ rest = ys ∧ lcL g cnd elt own (ds.drop i) τ' = some (rest, τe) ∧ Same F1 F',
      ⟨_, rfl, Nat.zero_le _, wipeT own τ1, F1, [], [], ys, (k1.wipe).mut fD rD0, Stp.refl.mut hD, fD, upd_same, rD0, .nil, rfl, h2, fun _ _ z => z⟩, ?_⟩
    rintro i m H' ⟨rfl, hle, τ', F', vs, acc, rest, k', s', fD', hD', rD', ra, er, e', sF⟩
    by_cases hlt : i < ds.length
    · have hd : ds[i]? = some ds[i] := List.getElem?_eq_getElem hlt
      rw [List.drop_eq_getElem_cons hlt, lcL] at e'
      obtain ⟨τ2, h3, e'⟩ := Option.bind_eq_some_iff.mp e'
      obtain ⟨b, h4, e'⟩ := Option.bind_eq_some_iff.mp e'
      obtain ⟨go, yl⟩ := y1.2 i _ H' F' hd sF k'.sub
      refine .inr ⟨go, fun H3 => ∃ (τ' : Sls) (F' : Hp) (vs : List V) (acc rest : List T), Ok K F' τ' (wipe σ own) H3 ∧ Stp (wipeT own τ1) (wipe σ own) H1 F1 τ' (wipe σ own) H3 F' ∧ F' D = none ∧ H3 D = some (.lst vs) ∧ ¬ IsRoot τ' (wipe σ own) D ∧
        RpA K F' vs acc ∧ acc ++ rest = ys ∧ lcL g cnd elt own (ds.drop (i + 1)) τ' = some (rest, τe) ∧ Same F1 F', fun H3 w => ⟨_, by omega, rfl, hlt, w⟩, fun x H2 y => ?_⟩
      obtain ⟨F2, g2, r2⟩ := yl x H2 y
      refine hg _ x τ' τ2 _ H2 F2 _ h3 (k'.grow g2) r2 fun σ4 k4 s4 l4 o4 => ?_
      have ew : wipe σ4 own = wipe (wipe σ own) own := wipe_eq l4 hL o4
      have eww : wipe (wipe σ own) own = wipe σ own := by
        refine List.ext_getElem? fun j => ?_
        by_cases hj : j ∈ own
        · have a1 : ∀ (u : L2.St), (wipe u own)[j]? = if j < u.length then some none else none := fun u => by
            by_cases hl : j < u.length
            · rw [if_pos hl]
              have hl' : j < (wipe u own).length := by rw [wipe_length]; exact hl
              rw [List.getElem?_eq_getElem hl']
              cases q : (wipe u own)[j] with
              | none => rfl
              | some w => exact absurd (by rw [List.getElem?_eq_getElem hl', q]) (wipe_own (σ := u) (x := w) hj)
            · rw [if_neg hl, List.getElem?_eq_none (by rw [wipe_length]; omega)]
          rw [a1, a1, wipe_length]
        · rw [wipe_get hj]
      rw [eww] at ew
      refine ⟨ew, ?_⟩
      have st4 : Stp (wipeT own τ1) (wipe σ own) H1 F1 τ2 σ4 H2 F2 := s'.trans (g2.step.trans s4)
      have d4 := (g2.step (τ := τ') (σ := wipe σ own) |>.trans s4).free2 fD' hD' rD'
      refine ht τ2 b.2 b.1 σ4 H2 F2 _ h4 k4 fun H5 F5 k5 s5 => ?_
      have st5 := st4.trans s5
      have d5 := s5.free2 d4.1 d4.2.1 d4.2.2
      by_cases hb : b.1 = true
      · rw [if_pos hb] at e' ⊢
        obtain ⟨z, h5, e'⟩ := Option.bind_eq_some_iff.mp e'
        obtain ⟨w, h6, e'⟩ := Option.map_eq_some_iff.mp e'
        obtain ⟨ws, τw⟩ := w
        cases e'
        refine he b.2 z.2 z.1 σ4 H5 F5 _ h5 k5 fun v H6 F6 k6 s6 r6 => ?_
        have st6 := st5.trans s6
        have d6 := s6.free2 d5.1 d5.2.1 d5.2.2
        have rw6 : ¬ IsRoot (wipeT own z.2) (wipe σ4 own) D := fun ⟨j, r⟩ => d6.2.2 ⟨j, (wipeT_rootAt r).2⟩
        have la : acc.length < sizeLine := by
          have : acc.length + (ws.length + 1) = ys.length := by rw [← er]; simp
          omega
        refine ⟨vs, d6.2.1, by rw [ra.length]; exact la, wipeT own z.2, F6, vs ++ [v], acc ++ [z.1], ws, ?_, ?_, d6.1, upd_same, by rw [← ew]; exact rw6, (ra.mono (g2.ff.trans (s4.fr.trans (s5.fr.trans s6.fr)))).append (.one r6), by rw [← er]; simp, h6, sF.trans (g2.ff.trans (s4.fr.trans (s5.fr.trans s6.fr)))⟩
        · rw [← ew]
          exact (k6.wipe).mut d6.1 rw6
        · rw [← ew]
          have := st6.wipe
          rw [ew] at this ⊢
          exact this.mut hD
      · rw [if_neg hb] at e' ⊢
        have rw5 : ¬ IsRoot (wipeT own b.2) (wipe σ4 own) D := fun ⟨j, r⟩ => d5.2.2 ⟨j, (wipeT_rootAt r).2⟩
        refine ⟨wipeT own b.2, F5, vs, acc, rest, ?_, ?_, d5.1, d5.2.1, by rw [← ew]; exact rw5, ra.mono (g2.ff.trans (s4.fr.trans s5.fr)), er, e', sF.trans (g2.ff.trans (s4.fr.trans s5.fr))⟩
        · rw [← ew]
          exact k5.wipe
        · have := st5.wipe
          rw [ew] at this
          exact this
    · have hi : i = ds.length := by omega
      subst hi
      rw [List.drop_length, lcL] at e'
      cases e'
      rw [List.append_nil] at er
      subst er
      obtain ⟨k2, s2⟩ := rest_ok k1 k' s'
      have st := s1.trans s2
      refine .inl ⟨y1.1 H' (sF.trans k'.sub), c (.ref D) H' F' k2 st (.inr ⟨rfl, D, rfl, fD', fun z => ?_, .inl (s1.free hD), vs, hD', ra⟩)⟩
      rcases rest_root (by rw [k'.len, wipe_length, k1.len]) z with z | z
      · exact rD z
      · exact rD' z
  · cases e
end TR

namespace TR
open PySem L2

/-! ### a root is changed -/
def setR (τ : Sls) (j : Nat) (d : T) : Option Sls := match τ[j]? with
  | some (.ow _) => some (τ.set j (.ow d))
  | some (.ln _) => some (τ.set j (.ln d))
  | _ => none
section
variable {K : PySem.W.Frag} {F H : Hp} {τ τ' : Sls} {σ : L2.St}
theorem setR_root (k : Ok K F τ σ H) {j : Nat} {d : T} (e : setR τ j d = some τ') : ∃ p d0, RootAt τ σ j p ∧ slT τ[j]? = some d0 ∧ Own K F H p d0 ∧ F p = none := by
  unfold setR at e
  have hl : j < σ.length := by
    rw [← k.len]
    split at e
    · exact (List.getElem?_eq_some_iff.mp (by assumption)).1
    · exact (List.getElem?_eq_some_iff.mp (by assumption)).1
    · cases e
  have hx : σ[j]? = some σ[j] := List.getElem?_eq_getElem hl
  split at e
  · rename_i d0 h
    obtain ⟨p, e1, a, b⟩ := k.sl j _ _ h hx
    exact ⟨p, d0, ⟨_, h, rfl, by rw [hx, e1]⟩, by rw [h]; rfl, b, a⟩
  · rename_i d0 h
    obtain ⟨p, e1, a, b⟩ := k.sl j _ _ h hx
    exact ⟨p, d0, ⟨_, h, rfl, by rw [hx, e1]⟩, by rw [h]; rfl, b, a⟩
  · cases e
theorem setR_ok (k : Ok K F τ σ H) {j : Nat} {d : T} {p : Addr} {o : HO} (e : setR τ j d = some τ') (r : RootAt τ σ j p) (hF : F p = none) (hO : Own K F (L2.upd H p o) p d) :
    Ok K F τ' σ (L2.upd H p o) ∧ Stp τ σ H F τ' σ (L2.upd H p o) F := by
  have hl : j < τ.length := by
    obtain ⟨s, h, _⟩ := r
    exact (List.getElem?_eq_some_iff.mp h).1
  have rt : ∀ {i : Nat} {q : Addr}, RootAt τ' σ i q → RootAt τ σ i q := fun {i q} ⟨s, h1, h2, h3⟩ => by
    unfold setR at e
    split at e
    all_goals first
      | (rename_i d0 h
         cases e
         by_cases hi : j = i
         · subst hi
           exact ⟨_, h, rfl, h3⟩
         · rw [List.getElem?_set_ne hi] at h1
           exact ⟨s, h1, h2, h3⟩)
      | cases e
  have len : τ'.length = τ.length := by
    unfold setR at e
    split at e <;> first | (cases e; exact List.length_set) | cases e
  have oth : ∀ {i : Nat}, i ≠ j → τ'[i]? = τ[i]? := fun {i} hi => by
    unfold setR at e
    split at e <;> first | (cases e; exact List.getElem?_set_ne (Ne.symm hi)) | cases e
  refine ⟨⟨fun b u h => by rw [upd_ne (ne_of_none h hF)]; exact k.sub b u h, len.trans k.len, fun i s x h1 h2 => ?_, fun a b q r1 r2 => k.ne a b q (rt r1) (rt r2)⟩,
    ⟨fun b u h n => by rw [upd_ne (fun z => n ⟨j, by rw [z]; exact r⟩)]; exact h, fun b u h => ?_, fun _ _ z => z, fun _ _ h => .inl h, fun q ⟨i, z⟩ => .inl ⟨i, rt z⟩, fun i d' h => ⟨?_, rfl⟩⟩⟩
  · by_cases hi : i = j
    · subst hi
      obtain ⟨s0, g1, g2, g3⟩ := r
      rw [g3] at h2
      cases h2
      unfold setR at e
      split at e
      · cases e
        rw [List.getElem?_set_self hl] at h1
        cases h1
        exact ⟨p, rfl, hF, hO⟩
      · cases e
        rw [List.getElem?_set_self hl] at h1
        cases h1
        exact ⟨p, rfl, hF, hO⟩
      · cases e
    · rw [oth hi] at h1
      have ne : ∀ {q : Addr}, s.isRoot = true → x = some (.ref q) → q ≠ p := fun {q} z1 z2 z3 => by
        subst z3 z2
        exact hi (k.ne i j q ⟨s, h1, z1, h2⟩ r)
      have q := k.sl i s x h1 h2
      cases s with
      | no => trivial
      | fr d => exact q
      | ow d =>
        obtain ⟨q, e1, a, b⟩ := q
        exact ⟨q, e1, a, b.mono (fun _ _ z => z) (upd_ne (ne rfl e1))⟩
      | ln d =>
        obtain ⟨q, e1, a, b⟩ := q
        exact ⟨q, e1, a, b.mono (fun _ _ z => z) (upd_ne (ne rfl e1))⟩
  · by_cases hb : b = p
    · subst hb; exact ⟨o, upd_same⟩
    · exact ⟨u, by rw [upd_ne hb]; exact h⟩
  · by_cases hi : i = j
    · subst hi
      unfold setR at e
      rw [h] at e
      cases e
      exact ⟨d, List.getElem?_set_self hl⟩
    · exact ⟨d', by rw [oth hi]; exact h⟩
end
/-- o[i] = v -/
def stG (c k v : T) : Option T := match c with
  | .lst ds => match k with
    | .int i => (ixN ds.length i).map fun j => .lst (ds.set j v)
    | _ => none
  | .dic kvs => if (keyOf k).isSome && decide (kvs.length < sizeLine) then some (.dic (putT kvs k v)) else none
  | .dit kvs => if (keysOf k).isSome && decide (kvs.length < sizeLine) then some (.dit (putT kvs k v)) else none
  | _ => none
def rSetG : V → V → V → Hp → (Hp → Prop) → Prop := fun o i v H Q => rSetL o i v H Q ∨ ∃ a H', o = .ref a ∧ DPut H a i v H' ∧ Q H'
theorem set_G {X : Cx} (hu : X.A.units + 1 < cLine) : PSet X rSetG := by
  intro pins s σ H o i v ov iv u Q I ro ri rv h
  rcases h with h | ⟨a, H', rfl, g, q⟩
  · exact set_list pins s σ H o i v ov iv u Q I ro ri rv h
  · obtain rfl : ov = Value.ref a := ro
    exact d_setItem hu I g ri rv fun s' I' => ⟨H', I', q⟩
def ixS (j : Nat) (fe fi : M T) : Sls → Option Out := fun τ => (fe τ).bind fun p => (slT p.2[j]?).bind fun _ => (fi p.2).bind fun q => (slT q.2[j]?).bind fun d => (stG d q.1 p.1).bind fun d' => (setR q.2 j d').map .nx
theorem slT_val {K : PySem.W.Frag} {F H : Hp} {τ : Sls} {σ : L2.St} (k : Ok K F τ σ H) {j : Nat} {d : T} (h : slT τ[j]? = some d) : ∃ v, σ[j]? = some (some v) ∧ Lk K F H v d := by
  cases es : τ[j]? with
  | none => rw [es] at h; cases h
  | some s =>
    have hn : s ≠ .no := fun z => by rw [es, z] at h; cases h
    obtain ⟨v, hv, l⟩ := k.val es hn
    rw [es] at h
    exact ⟨v, hv, l h⟩
theorem s_ixS {K : PySem.W.Frag} {te ti : TE} {fe fi : M T} {j : Nat} (he : SV K te fe) (hi : SV K ti fi) : SS K (tAsg te (gSub (tVar j) ti rSetG)) (ixS j fe fi) := by
  intro τ out σ H F D e k c
  unfold ixS at e
  obtain ⟨p, h1, e⟩ := Option.bind_eq_some_iff.mp e
  obtain ⟨_, h0, e⟩ := Option.bind_eq_some_iff.mp e
  obtain ⟨q, h2, e⟩ := Option.bind_eq_some_iff.mp e
  obtain ⟨d, h3, e⟩ := Option.bind_eq_some_iff.mp e
  obtain ⟨d', h4, e⟩ := Option.bind_eq_some_iff.mp e
  obtain ⟨τ3, h5, e⟩ := Option.map_eq_some_iff.mp e
  cases e
  refine he τ p.2 p.1 σ H F _ h1 k fun v H1 F1 k1 s1 r1 => ?_
  obtain ⟨w, hw, _⟩ := slT_val k1 h0
  refine ⟨w, hw, hi p.2 q.2 q.1 σ H1 F1 _ h2 k1 fun u H2 F2 k2 s2 r2 => ?_⟩
  obtain ⟨a, d0, ra, ed, oa, fa⟩ := setR_root k2 h5
  have ew : w = .ref a := by
    obtain ⟨_, _, _, z⟩ := ra
    rw [hw] at z
    exact Option.some.inj (Option.some.inj z)
  subst ew
  rw [h3] at ed
  cases ed
  have rv := r1.mono s2.fr
  have st := s1.trans s2
  have fin : ∀ o, Own K F2 (L2.upd H2 a o) a d' → D.nx σ (L2.upd H2 a o) := fun o ho => by
    obtain ⟨k3, s3⟩ := setR_ok k2 h5 ra fa ho
    exact c σ _ F2 k3 (st.trans s3)
  unfold stG at h4
  split at h4
  · rename_i ds
    split at h4
    · rename_i i hq
      obtain ⟨m, h6, h4⟩ := Option.map_eq_some_iff.mp h4
      subst h4
      obtain ⟨vs, hH, rA⟩ := oa
      rw [hq] at r2
      cases r2
      exact .inl ⟨a, vs, i, m, rfl, rfl, hH, by rw [rA.length]; exact h6, fin _ ⟨_, upd_same, rA.set rv m⟩⟩
    · cases h4
  · rename_i ds
    split at h4
    · rename_i hz
      cases h4
      rw [Bool.and_eq_true, decide_eq_true_eq] at hz
      obtain ⟨kvs, hH, rA⟩ := oa
      obtain ⟨kk, hk⟩ := Option.isSome_iff_exists.mp hz.1
      have ek := keyOf_eq hk
      have eu : u = kV kk := by
        rw [ek] at r2
        cases kk with
        | inl i => cases r2; rfl
        | inr x => cases r2; rfl
      refine .inr ⟨a, _, rfl, .inl ⟨kvs, kk, hH, eu, by rw [rA.length]; exact hz.2, rfl⟩, fin _ ⟨_, upd_same, ?_⟩⟩
      rw [ek]
      exact rA.put rv
    · cases h4
  · rename_i ds
    split at h4
    · rename_i hz
      cases h4
      rw [Bool.and_eq_true, decide_eq_true_eq] at hz
      obtain ⟨kvs, hH, rA⟩ := oa
      obtain ⟨kk, hk⟩ := Option.isSome_iff_exists.mp hz.1
      have ek := keysOf_eq hk
      rw [ek] at r2
      obtain ⟨b, vs, e1, e2, ra2⟩ := Lk.tup (H := H2) k2.sub (.inl r2)
      rw [ra2.keys] at e2
      refine .inr ⟨a, _, rfl, .inr ⟨kvs, kk, b, hH, e1, e2, by rw [rA.length]; exact hz.2, rfl⟩, fin _ ⟨_, upd_same, ?_⟩⟩
      rw [ek]
      exact rA.put rv
    · cases h4
  · cases h4

/-! ### methods that change a list -/
/-- g: the items, the arguments; what comes back, the items then -/
def RMS (K : PySem.W.Frag) (r : V → List V → Hp → VK → Prop) (g : List T → List T → Option (T × List T)) : Prop := ∀ (a : Addr) (vs xs : List V) (ds as : List T) (res : T × List T) (F H : Hp) (Q : VK), g ds as = some res → Same F H → F a = none → H a = some (.lst vs) → RpA K F vs ds → RpA K F xs as →
  (∀ v ws, RpA K F ws res.2 → Rp K F v res.1 → Q v (L2.upd H a (.lst ws))) → r (.ref a) xs H Q
def lstOf : Option T → Option (List T)
  | some (.lst ds) => some ds
  | _ => none
def metE (j : Nat) (g : List T → List T → Option (T × List T)) (fa : M (List T)) : M R := fun τ => (lstOf (slT τ[j]?)).bind fun _ => (fa τ).bind fun p => (lstOf (slT p.2[j]?)).bind fun ds => (g ds p.1).bind fun q => (setR p.2 j (.lst q.2)).map fun τ' => (⟨q.1, false⟩, τ')
theorem lstOf_some {o : Option T} {ds : List T} (h : lstOf o = some ds) : o = some (.lst ds) := by
  unfold lstOf at h
  split at h
  · cases h; rfl
  · cases h
theorem s_met {K : PySem.W.Frag} {j : Nat} {r : V → List V → Hp → VK → Prop} {g : List T → List T → Option (T × List T)} {ta : TA} {fa : M (List T)} (hr : RMS K r g) (ha : SAV K ta fa) : SE K (tBM K "list" r (tVar j) ta) (metE j g fa) := by
  intro τ τ' res σ H F Q e k c
  unfold metE at e
  obtain ⟨ds0, h0, e⟩ := Option.bind_eq_some_iff.mp e
  obtain ⟨p, h1, e⟩ := Option.bind_eq_some_iff.mp e
  obtain ⟨ds, h2, e⟩ := Option.bind_eq_some_iff.mp e
  obtain ⟨q, h3, e⟩ := Option.bind_eq_some_iff.mp e
  obtain ⟨τ3, h5, e⟩ := Option.map_eq_some_iff.mp e
  cases e
  obtain ⟨w, hw, l0⟩ := slT_val k (lstOf_some h0)
  obtain ⟨a0, vs0, ew0, hH0, _⟩ := l0.lst k.sub
  refine ⟨w, hw, by rw [ew0]; exact .inl ⟨rfl, vs0, SqL.of hH0⟩, ha τ p.2 p.1 σ H F _ h1 k fun xs H1 F1 k1 s1 r1 => ?_⟩
  obtain ⟨a, d0, ra, ed, oa, fa⟩ := setR_root k1 h5
  have ew : w = .ref a := by
    obtain ⟨_, _, _, z⟩ := ra
    rw [hw] at z
    exact Option.some.inj (Option.some.inj z)
  rw [lstOf_some h2] at ed
  cases ed
  obtain ⟨vs, hH, rA⟩ := oa
  rw [ew]
  refine hr a vs xs ds p.1 q F1 H1 Q h3 k1.sub fa hH rA r1 fun v ws rw' rv => ?_
  obtain ⟨k3, s3⟩ := setR_ok (o := .lst ws) k1 h5 ra fa ⟨ws, upd_same, rw'⟩
  exact c v _ F1 k3 (s1.trans s3) (.inl ⟨rfl, rv⟩)
theorem s_met0 {K : PySem.W.Frag} {j : Nat} {r : V → List V → Hp → VK → Prop} {g : List T → List T → Option (T × List T)} (hr : RMS K r g) : SE K (tBM0 K "list" r (tVar j)) (metE j g nilV) := by
  intro τ τ' res σ H F Q e k c
  unfold metE nilV at e
  obtain ⟨ds0, h0, e⟩ := Option.bind_eq_some_iff.mp e
  obtain ⟨p, h1, e⟩ := Option.bind_eq_some_iff.mp e
  cases h1
  obtain ⟨ds, h2, e⟩ := Option.bind_eq_some_iff.mp e
  obtain ⟨q, h3, e⟩ := Option.bind_eq_some_iff.mp e
  obtain ⟨τ3, h5, e⟩ := Option.map_eq_some_iff.mp e
  cases e
  obtain ⟨w, hw, l0⟩ := slT_val k (lstOf_some h0)
  obtain ⟨a, d0, ra, ed, oa, fa⟩ := setR_root k h5
  have ew : w = .ref a := by
    obtain ⟨_, _, _, z⟩ := ra
    rw [hw] at z
    exact Option.some.inj (Option.some.inj z)
  dsimp only at h2 ed
  rw [lstOf_some h2] at ed
  cases ed
  obtain ⟨vs, hH, rA⟩ := oa
  refine ⟨w, hw, by rw [ew]; exact .inl ⟨rfl, vs, SqL.of hH⟩, ?_⟩
  rw [ew]
  refine hr a vs [] ds [] q F H Q h3 k.sub fa hH rA .nil fun v ws rw' rv => ?_
  obtain ⟨k3, s3⟩ := setR_ok (o := .lst ws) k h5 ra fa ⟨ws, upd_same, rw'⟩
  exact c v _ F k3 s3 (.inl ⟨rfl, rv⟩)
def appG (ds as : List T) : Option (T × List T) := match as with
  | [d] => if ds.length < sizeLine then some (.non, ds ++ [d]) else none
  | _ => none
theorem s_app {K : PySem.W.Frag} : RMS K rAppend appG := by
  intro a vs xs ds as res F H Q e s hF hH rA rx c
  unfold appG at e
  split at e
  · split at e
    · rename_i hz
      cases e
      cases rx with
      | cons x y =>
        cases y
        exact ⟨a, vs, _, rfl, rfl, hH, by rw [rA.length]; exact hz, c .non _ (rA.append (.one x)) .non⟩
    · cases e
  · cases e
def extG (ds as : List T) : Option (T × List T) := match as with
  | [.lst es] => if ds.length + es.length ≤ sizeLine then some (.non, ds ++ es) else none
  | _ => none
theorem s_ext {K : PySem.W.Frag} : RMS K rExtend extG := by
  intro a vs xs ds as res F H Q e s hF hH rA rx c
  unfold extG at e
  split at e
  · split at e
    · rename_i hz
      cases e
      cases rx with
      | cons x y =>
        cases y
        cases x with
        | lst hb rb => exact ⟨a, _, vs, _, rfl, rfl, hH, s _ _ hb, by rw [rA.length, rb.length]; exact hz, c .non _ (rA.append rb) .non⟩
    · cases e
  · cases e
theorem RpA.eraseIdx {K : PySem.W.Frag} {F : Hp} : ∀ {vs : List V} {ds : List T} (i : Nat), RpA K F vs ds → RpA K F (vs.eraseIdx i) (ds.eraseIdx i)
  | _, _, _, .nil => .nil
  | _, _, 0, .cons _ b => b
  | _, _, i + 1, .cons a b => .cons a (RpA.eraseIdx i b)
theorem RpA.dropLast {K : PySem.W.Frag} {F : Hp} {vs : List V} {ds : List T} (a : RpA K F vs ds) : RpA K F vs.dropLast ds.dropLast := by
  rw [List.dropLast_eq_take, List.dropLast_eq_take, a.length]
  exact a.take _
def popG (ds as : List T) : Option (T × List T) := match as with
  | [] => (ds[ds.length - 1]?).map fun d => (d, ds.dropLast)
  | _ => none
theorem s_pop {K : PySem.W.Frag} : RMS K rPop popG := by
  intro a vs xs ds as res F H Q e s hF hH rA rx c
  unfold popG at e
  split at e
  · obtain ⟨d, h1, e⟩ := Option.map_eq_some_iff.mp e
    cases e
    cases rx
    obtain ⟨v, hv, rv⟩ := rA.get h1
    exact ⟨a, vs, v, rfl, rfl, hH, by rw [rA.length]; exact hv, c v _ rA.dropLast rv⟩
  · cases e
def popAtG (ds as : List T) : Option (T × List T) := match as with
  | [.int i] => if rgOk i = true then (ixN ds.length i).bind fun j => (ds[j]?).map fun d => (d, ds.eraseIdx j) else none
  | _ => none
theorem s_popAt {K : PySem.W.Frag} : RMS K rPopAt popAtG := by
  intro a vs xs ds as res F H Q e s hF hH rA rx c
  unfold popAtG at e
  split at e
  · split at e
    · rename_i hz
      have hz := rgOk_spec hz
      obtain ⟨j, h0, e⟩ := Option.bind_eq_some_iff.mp e
      obtain ⟨d, h1, e⟩ := Option.map_eq_some_iff.mp e
      cases e
      obtain ⟨q1, q2, q3, q4⟩ := ixN_seq h0
      obtain ⟨v, hv, rv⟩ := rA.get h1
      cases rx with
      | cons x y =>
        cases y
        cases x
        exact ⟨a, vs, _, j, v, rfl, rfl, hH, by omega, by omega, by rw [rA.length]; exact q1, hv, c v _ (rA.eraseIdx j) rv⟩
    · cases e
  · cases e
end TR

namespace TR
open PySem L2

/-! ### a def by its body -/
def back : Sls → Sls → Sls
  | s :: r, s1 :: r1 => (match s with
    | .ln _ => s1
    | _ => s) :: back r r1
  | s :: r, [] => s :: r
  | [], _ => []
def fnS (m : Nat) (g : Sls → Option Out) : FnS := fun τ => (g (τ ++ List.replicate m .no)).bind fun o => match o with
  | .rt r τ1 => some (r, back τ τ1)
  | .nx τ1 => some (⟨.non, false⟩, back τ τ1)
  | _ => none
theorem back_length : ∀ τ τ1 : Sls, (back τ τ1).length = τ.length
  | [], _ => rfl
  | _ :: r, [] => rfl
  | _ :: r, _ :: r1 => congrArg Nat.succ (back_length r r1)
theorem back_get : ∀ (τ τ1 : Sls) (j : Nat) (s : Sl), (back τ τ1)[j]? = some s → (τ[j]? = some s ∧ ((∃ d, s = .ln d) → τ1[j]? = some s ∨ τ1[j]? = none)) ∨ (∃ d, τ[j]? = some (.ln d)) ∧ τ1[j]? = some s
  | [], _, _, _, h => by simp [back] at h
  | s0 :: r, [], j, s, h => .inl ⟨h, fun _ => .inr (by simp)⟩
  | s0 :: r, s1 :: r1, 0, s, h => by
    simp only [back, List.getElem?_cons_zero, Option.some.injEq] at h
    subst h
    cases s0 with
    | ln d => exact .inr ⟨⟨d, rfl⟩, rfl⟩
    | no => exact .inl ⟨rfl, fun ⟨d, e⟩ => by cases e⟩
    | fr d => exact .inl ⟨rfl, fun ⟨d, e⟩ => by cases e⟩
    | ow d => exact .inl ⟨rfl, fun ⟨d, e⟩ => by cases e⟩
  | s0 :: r, s1 :: r1, j + 1, s, h => by
    simp only [back, List.getElem?_cons_succ] at h ⊢
    exact back_get r r1 j s h
section
variable {K : PySem.W.Frag} {F H F' H' : Hp} {τ τ1 : Sls} {vs : List V} {m : Nat} {σ1 : L2.St}
theorem start_ok (k : Ok K F τ (vs.map some) H) : Ok K F (τ ++ List.replicate m .no) (vs.map some ++ List.replicate m none) H := by
  have rt : ∀ {j : Nat} {p : Addr}, RootAt (τ ++ List.replicate m .no) (vs.map some ++ List.replicate m none) j p → RootAt τ (vs.map some) j p := fun {j p} ⟨s, h1, h2, h3⟩ => by
    by_cases hj : j < τ.length
    · rw [List.getElem?_append_left hj] at h1
      rw [List.getElem?_append_left (by rw [← k.len]; exact hj)] at h3
      exact ⟨s, h1, h2, h3⟩
    · rw [List.getElem?_append_right (by omega), List.getElem?_replicate] at h1
      split at h1
      · cases h1; cases h2
      · cases h1
  refine ⟨k.sub, by simp [k.len], fun j s x h1 h2 => ?_, fun i j p r1 r2 => k.ne i j p (rt r1) (rt r2)⟩
  by_cases hj : j < τ.length
  · rw [List.getElem?_append_left hj] at h1
    rw [List.getElem?_append_left (by rw [← k.len]; exact hj)] at h2
    exact k.sl j s x h1 h2
  · rw [List.getElem?_append_right (by omega), List.getElem?_replicate] at h1
    split at h1
    · cases h1; trivial
    · cases h1
theorem back_ok (k : Ok K F τ (vs.map some) H) (hp : ∀ s ∈ τ, s.isPar = true) (k1 : Ok K F' τ1 σ1 H') (s1 : Stp (τ ++ List.replicate m .no) (vs.map some ++ List.replicate m none) H F τ1 σ1 H' F') :
    Ok K F' (back τ τ1) (vs.map some) H' ∧ Stp τ (vs.map some) H F (back τ τ1) (vs.map some) H' F' ∧ ∀ p, IsRoot (back τ τ1) (vs.map some) p → IsRoot τ (vs.map some) p := by
  have lnAt : ∀ {j : Nat} {d : T}, τ[j]? = some (.ln d) → (∃ d', τ1[j]? = some (.ln d')) ∧ σ1[j]? = (vs.map some)[j]? := fun {j d} h => by
    have hj : j < τ.length := (List.getElem?_eq_some_iff.mp h).1
    obtain ⟨e1, e2⟩ := s1.ln j d (by rw [List.getElem?_append_left hj]; exact h)
    refine ⟨e1, ?_⟩
    rw [e2, List.getElem?_append_left (by rw [← k.len]; exact hj)]
  have rt0 : ∀ {p : Addr}, IsRoot (τ ++ List.replicate m .no) (vs.map some ++ List.replicate m none) p → IsRoot τ (vs.map some) p := fun {p} ⟨j, s, h1, h2, h3⟩ => by
    by_cases hj : j < τ.length
    · rw [List.getElem?_append_left hj] at h1
      rw [List.getElem?_append_left (by rw [← k.len]; exact hj)] at h3
      exact ⟨j, s, h1, h2, h3⟩
    · rw [List.getElem?_append_right (by omega), List.getElem?_replicate] at h1
      split at h1
      · cases h1; cases h2
      · cases h1
  -- a slot behind the body: a value that stood, or a lent root
  have at_ : ∀ {j : Nat} {s : Sl}, (back τ τ1)[j]? = some s → (∃ d, s = .fr d ∧ τ[j]? = some (.fr d)) ∨ ∃ d d', s = .ln d' ∧ τ[j]? = some (.ln d) ∧ τ1[j]? = some (.ln d') := fun {j s} h => by
    rcases back_get τ τ1 j s h with ⟨e1, e2⟩ | ⟨⟨d, e1⟩, e2⟩
    · have q := hp s (List.mem_of_getElem? e1)
      cases s with
      | no => cases q
      | ow d => cases q
      | fr d => exact .inl ⟨d, rfl, e1⟩
      | ln d =>
        obtain ⟨⟨d', e3⟩, _⟩ := lnAt e1
        rcases e2 ⟨d, rfl⟩ with e2 | e2
        · exact .inr ⟨d, d, rfl, e1, e2⟩
        · rw [e2] at e3; cases e3
    · obtain ⟨⟨d', e3⟩, _⟩ := lnAt e1
      rw [e2] at e3
      cases e3
      exact .inr ⟨d, d', rfl, e1, e2⟩
  have rtB : ∀ {j : Nat} {p : Addr}, RootAt (back τ τ1) (vs.map some) j p → RootAt τ (vs.map some) j p := fun {j p} ⟨s, h1, h2, h3⟩ => by
    rcases at_ h1 with ⟨d, rfl, e⟩ | ⟨d, d', rfl, e, _⟩
    · cases h2
    · exact ⟨_, e, rfl, h3⟩
  refine ⟨⟨k1.sub, by rw [back_length]; exact k.len, fun j s x h1 h2 => ?_, fun i j p r1 r2 => k.ne i j p (rtB r1) (rtB r2)⟩,
    ⟨fun b o h n => s1.keep b o h fun z => n (rt0 z), s1.dom, s1.fr, fun b o h => (s1.new b o h).imp id fun z => z.imp id rt0, fun p ⟨j, r⟩ => .inl ⟨j, rtB r⟩, fun j d h => ⟨?_, rfl⟩⟩, fun p ⟨j, r⟩ => ⟨j, rtB r⟩⟩
  · rcases at_ h1 with ⟨d, rfl, e⟩ | ⟨d, d', rfl, e, e2⟩
    · obtain ⟨v, e3, r⟩ := k.sl j _ x e h2
      exact ⟨v, e3, r.mono s1.fr⟩
    · obtain ⟨_, e3⟩ := lnAt e
      exact k1.sl j _ x e2 (e3.trans h2)
  · obtain ⟨⟨d', e1⟩, _⟩ := lnAt h
    have hj : j < (back τ τ1).length := by rw [back_length]; exact (List.getElem?_eq_some_iff.mp h).1
    have hs : (back τ τ1)[j]? = some (back τ τ1)[j] := List.getElem?_eq_getElem hj
    rcases at_ hs with ⟨d2, e2, e3⟩ | ⟨d2, d3, e2, _⟩
    · rw [h] at e3; cases e3
    · exact ⟨d3, by rw [hs, e2]⟩
end
theorem fn_run {K : PySem.W.Frag} {ts : TS} {g : Sls → Option Out} {n m : Nat} {N : List Str} {vs : List V} {H : Hp} {Q : VK} {E : XK} (hN : N.length = n + m) (hs : SS K ts g) (h : spT K n (fnS m g) vs H Q E) :
    ts { nx := fun _ H' => Q .non H', rt := Q } (L2.start N vs) H := by
  obtain ⟨hl, F, τ, r, τ', k, hp, e, c⟩ := h
  have est : L2.start N vs = vs.map some ++ List.replicate m none := by
    unfold L2.start
    rw [hN, hl, Nat.add_sub_cancel_left]
  rw [est]
  unfold fnS at e
  obtain ⟨o, h1, e⟩ := Option.bind_eq_some_iff.mp e
  refine hs _ o _ H F _ h1 (start_ok k) ?_
  have fin : ∀ {v : V} {τ1 : Sls} {σ1 : L2.St} {H' F' : Hp} {r : R}, Ok K F' τ1 σ1 H' → Stp (τ ++ List.replicate m .no) (vs.map some ++ List.replicate m none) H F τ1 σ1 H' F' → ROk K F' H' τ1 σ1 (τ ++ List.replicate m .no) (vs.map some ++ List.replicate m none) H v r →
      ROk K F' H' (back τ τ1) (vs.map some) τ (vs.map some) H v r := fun {v τ1 σ1 H' F' r} k1 s1 q => by
    obtain ⟨k2, s2, b2⟩ := back_ok k hp k1 s1
    rcases q with ⟨e, q⟩ | ⟨e, p, q1, q2, q3, q4, q5⟩
    · exact .inl ⟨e, q⟩
    · have h0 : H p = none := by
        rcases q4 with z | ⟨j, s, z1, z2, z3⟩
        · exact z
        · exfalso
          by_cases hj : j < τ.length
          · rw [List.getElem?_append_left hj] at z1
            have qp := hp s (List.mem_of_getElem? z1)
            cases s with
            | no => cases z2
            | fr d => cases z2
            | ow d => cases qp
            | ln d =>
              obtain ⟨⟨d', e1⟩, e2⟩ := s1.ln j d (by rw [List.getElem?_append_left hj]; exact z1)
              exact q3 ⟨j, _, e1, rfl, e2.trans z3⟩
          · rw [List.getElem?_append_right (by omega), List.getElem?_replicate] at z1
            split at z1
            · cases z1; cases z2
            · cases z1
      refine .inr ⟨e, p, q1, q2, fun z => ?_, .inl h0, q5⟩
      obtain ⟨o, eo⟩ := k.rootH (b2 p z)
      rw [h0] at eo
      cases eo
  cases o with
  | nx τ1 =>
    cases e
    exact fun σ1 H' F' k1 s1 => let ⟨k2, s2, _⟩ := back_ok k hp k1 s1; c _ H' F' k2 s2 (.inl ⟨rfl, .non⟩)
  | rt r' τ1 =>
    cases e
    exact fun v σ1 H' F' k1 s1 q => let ⟨k2, s2, _⟩ := back_ok k hp k1 s1; c v H' F' k2 s2 (fin k1 s1 q)
  | bk τ1 => cases e
  | ct τ1 => cases e
end TR

namespace TR
open PySem L2
theorem CallR.or {X : Cx} {f : Value} {r r' : List V → Hp → VK → Prop} (h : CallR X f r) (h' : CallR X f r') : CallR X f (fun xs H Q => r xs H Q ∨ r' xs H Q) := by
  intro pins s σ H xs us Q I rv q
  rcases q with q | q
  · exact h pins s σ H xs us Q I rv q
  · exact h' pins s σ H xs us Q I rv q
section
variable {K : PySem.W.Frag}
/-! ### len -/
def lenG (as : List T) : Option R := match as with
  | [.lst ds] => some (ri ds.length)
  | [.frl ds] => some (ri ds.length)
  | [.tup ds] => some (ri ds.length)
  | [.str x] => if x.length ≤ sizeLine then some (ri x.length) else none
  | [.dic kvs] => some (ri kvs.length)
  | [.dit kvs] => some (ri kvs.length)
  | _ => none
def rLenK : List V → Hp → VK → Prop := fun xs H Q => ∃ a kvs, xs = [V.ref a] ∧ Rd H a (.dK kvs) ∧ Q (.int kvs.length) H
theorem call_lenK {X : Cx} : CallR X (.builtin "len") rLenK := by
  intro pins s σ H xs us Q I r h
  obtain ⟨a, kvs, rfl, ha, q⟩ := h
  obtain ⟨u, rfl, ru⟩ := vals1 r
  cases ru
  exact d_len I ha fun t s' I' => ⟨.int kvs.length, H, I', ⟨t, rfl⟩, q⟩
def rLenV (K : PySem.W.Frag) : List V → Hp → VK → Prop := fun xs H Q => ∃ x n, xs = [x] ∧ LenV K x H n ∧ Q (.int n) H
def rLenG (K : PySem.W.Frag) : List V → Hp → VK → Prop := fun xs H Q => rLenV K xs H Q ∨ rLenK xs H Q ∨ rLenT xs H Q
theorem call_lenG {X : Cx} : CallR X (.builtin "len") (rLenG X.K) := CallR.or call_len (CallR.or call_lenK call_len_dT)
theorem LkA.one {F H : Hp} {xs : List V} {a : T} (h : LkA K F H xs [a]) : ∃ x, xs = [x] ∧ Lk K F H x a := by
  cases h with
  | cons h t => cases t; exact ⟨_, rfl, h⟩
theorem LkA.two {F H : Hp} {xs : List V} {a b : T} (h : LkA K F H xs [a, b]) : ∃ x y, xs = [x, y] ∧ Lk K F H x a ∧ Lk K F H y b := by
  cases h with
  | cons h t =>
    obtain ⟨y, rfl, r⟩ := t.one
    exact ⟨_, _, rfl, h, r⟩
theorem s_len : RLS K (rLenG K) lenG := by
  intro xs as res F H Q e s l c
  unfold lenG at e
  split at e
  · cases e
    obtain ⟨x, rfl, y⟩ := l.one
    obtain ⟨p, vs, rfl, hp, ap⟩ := y.lst s
    exact .inl ⟨_, _, rfl, .inl ⟨vs, SqL.of hp, by rw [ap.length]⟩, here s (.int _) c⟩
  · cases e
    obtain ⟨x, rfl, y⟩ := l.one
    obtain ⟨p, vs, rfl, hp, ap⟩ := y.frl s
    exact .inl ⟨_, _, rfl, .inl ⟨vs, hp, by rw [ap.length]⟩, here s (.int _) c⟩
  · cases e
    obtain ⟨x, rfl, y⟩ := l.one
    obtain ⟨p, vs, rfl, hp, ap⟩ := y.tup s
    exact .inl ⟨_, _, rfl, .inr ⟨vs, SqT.of hp, by rw [ap.length]⟩, here s (.int _) c⟩
  · split at e
    · rename_i hz
      cases e
      obtain ⟨x, rfl, y⟩ := l.one
      rw [y.str]
      exact .inl ⟨_, _, rfl, ⟨hz, rfl⟩, here s (.int _) c⟩
    · cases e
  · cases e
    obtain ⟨x, rfl, y⟩ := l.one
    obtain ⟨a, kvs, rfl, h1, h2⟩ := y.dic s
    refine .inr (.inl ⟨a, kvs, rfl, h1, ?_⟩)
    rw [h2.length]
    exact here s (.int _) c
  · cases e
    obtain ⟨x, rfl, y⟩ := l.one
    obtain ⟨a, kvs, rfl, h1, h2⟩ := y.dit s
    refine .inr (.inr ⟨a, kvs, rfl, h1, ?_⟩)
    rw [h2.length]
    exact here s (.int _) c
  · cases e
/-! ### int, abs, max, min -/
def intG (as : List T) : Option R := match as with
  | [.int i] => some (ri i)
  | [.bl b] => some (ri (if b then 1 else 0))
  | _ => none
def rInt1 : List V → Hp → VK → Prop := fun xs H Q => (∃ i, xs = [.int i] ∧ Q (.int i) H) ∨ ∃ k, xs = [.bl k] ∧ Q (.int (if k then 1 else 0)) H
theorem s_int1 : RLS K rInt1 intG := by
  intro xs as res F H Q e s l c
  unfold intG at e
  split at e
  · cases e
    obtain ⟨x, rfl, y⟩ := l.one
    rw [y.int]
    exact .inl ⟨_, rfl, here s (.int _) c⟩
  · cases e
    obtain ⟨x, rfl, y⟩ := l.one
    rw [y.bl]
    exact .inr ⟨_, rfl, here s (.int _) c⟩
  · cases e
def absG (as : List T) : Option R := match as with
  | [.int i] => some (ri (if i < 0 then -i else i))
  | _ => none
def rAbs : List V → Hp → VK → Prop := fun xs H Q => ∃ i, xs = [.int i] ∧ Q (.int (if i < 0 then -i else i)) H
theorem s_abs : RLS K rAbs absG := by
  intro xs as res F H Q e s l c
  unfold absG at e
  split at e
  · cases e
    obtain ⟨x, rfl, y⟩ := l.one
    rw [y.int]
    exact ⟨_, rfl, here s (.int _) c⟩
  · cases e
def max2G (as : List T) : Option R := match as with
  | [.int i, .int j] => some (ri (if j > i then j else i))
  | _ => none
def min2G (as : List T) : Option R := match as with
  | [.int i, .int j] => some (ri (if j < i then j else i))
  | _ => none
def rMax2 : List V → Hp → VK → Prop := fun xs H Q => ∃ i j, xs = [.int i, .int j] ∧ Q (.int (if j > i then j else i)) H
def rMin2 : List V → Hp → VK → Prop := fun xs H Q => ∃ i j, xs = [.int i, .int j] ∧ Q (.int (if j < i then j else i)) H
theorem s_max2 : RLS K rMax2 max2G := by
  intro xs as res F H Q e s l c
  unfold max2G at e
  split at e
  · cases e
    obtain ⟨x, y, rfl, l1, l2⟩ := l.two
    rw [l1.int, l2.int]
    exact ⟨_, _, rfl, here s (.int _) c⟩
  · cases e
theorem s_min2 : RLS K rMin2 min2G := by
  intro xs as res F H Q e s l c
  unfold min2G at e
  split at e
  · cases e
    obtain ⟨x, y, rfl, l1, l2⟩ := l.two
    rw [l1.int, l2.int]
    exact ⟨_, _, rfl, here s (.int _) c⟩
  · cases e
/-- sum, max, min, any, all of a list -/
def intsL (a : T) : Option (List Int) := (a.seqL).bind intsOf
theorem Lk.intsL {F H : Hp} {v : V} {a : T} {ns : List Int} (s : Same F H) (l : Lk K F H v a) (e : intsL a = some ns) : ∃ p, v = .ref p ∧ SqL K H p (ns.map V.int) := by
  unfold TR.intsL at e
  obtain ⟨ds, h1, h2⟩ := Option.bind_eq_some_iff.mp e
  obtain ⟨p, vs, h3, h4, h5⟩ := l.seqL s h1
  rw [intsOf_rp h2 h5] at h4
  exact ⟨p, h3, h4⟩
def sumG (as : List T) : Option R := match as with
  | [a] => (intsL a).map fun ns => ri ns.sum
  | _ => none
theorem s_sum : RLS K (rSum K) sumG := by
  intro xs as res F H Q e s l c
  unfold sumG at e
  split at e
  · obtain ⟨ns, h1, e⟩ := Option.map_eq_some_iff.mp e
    cases e
    obtain ⟨x, rfl, y⟩ := l.one
    obtain ⟨p, rfl, hp⟩ := y.intsL s h1
    exact ⟨p, ns, rfl, hp, here s (.int _) c⟩
  · cases e
def maxI : Int → List Int → Int
  | m, [] => m
  | m, x :: r => maxI (if m < x then x else m) r
def minI : Int → List Int → Int
  | m, [] => m
  | m, x :: r => minI (if x < m then x else m) r
theorem maxI_spec : ∀ (l : List Int) (m : Int), (maxI m l = m ∨ maxI m l ∈ l) ∧ m ≤ maxI m l ∧ ∀ y ∈ l, y ≤ maxI m l
  | [], m => ⟨.inl rfl, Int.le_refl _, fun _ h => by cases h⟩
  | x :: r, m => by
    rw [maxI]
    by_cases hx : m < x
    · rw [if_pos hx]
      obtain ⟨h1, h2, h3⟩ := maxI_spec r x
      refine ⟨.inr (h1.elim (fun e => by rw [e]; simp) (List.mem_cons_of_mem _)), by omega, fun y hy => (List.mem_cons.mp hy).elim (fun e => by omega) (h3 y)⟩
    · rw [if_neg hx]
      obtain ⟨h1, h2, h3⟩ := maxI_spec r m
      refine ⟨h1.imp id (List.mem_cons_of_mem _), h2, fun y hy => (List.mem_cons.mp hy).elim (fun e => by omega) (h3 y)⟩
theorem minI_spec : ∀ (l : List Int) (m : Int), (minI m l = m ∨ minI m l ∈ l) ∧ minI m l ≤ m ∧ ∀ y ∈ l, minI m l ≤ y
  | [], m => ⟨.inl rfl, Int.le_refl _, fun _ h => by cases h⟩
  | x :: r, m => by
    rw [minI]
    by_cases hx : x < m
    · rw [if_pos hx]
      obtain ⟨h1, h2, h3⟩ := minI_spec r x
      refine ⟨.inr (h1.elim (fun e => by rw [e]; simp) (List.mem_cons_of_mem _)), by omega, fun y hy => (List.mem_cons.mp hy).elim (fun e => by omega) (h3 y)⟩
    · rw [if_neg hx]
      obtain ⟨h1, h2, h3⟩ := minI_spec r m
      refine ⟨h1.imp id (List.mem_cons_of_mem _), h2, fun y hy => (List.mem_cons.mp hy).elim (fun e => by omega) (h3 y)⟩
def maxG (as : List T) : Option R := match as with
  | [a] => (intsL a).bind fun ns => match ns with
    | [] => none
    | n :: r => some (ri (maxI n r))
  | _ => none
def minG (as : List T) : Option R := match as with
  | [a] => (intsL a).bind fun ns => match ns with
    | [] => none
    | n :: r => some (ri (minI n r))
  | _ => none
theorem s_max : RLS K (rMax K) maxG := by
  intro xs as res F H Q e s l c
  unfold maxG at e
  split at e
  · obtain ⟨ns, h1, e⟩ := Option.bind_eq_some_iff.mp e
    split at e
    · cases e
    · rename_i n r
      cases e
      obtain ⟨x, rfl, y⟩ := l.one
      obtain ⟨p, rfl, hp⟩ := y.intsL s h1
      refine ⟨p, n :: r, rfl, hp, by simp, fun m hm hle => ?_⟩
      obtain ⟨g1, g2, g3⟩ := maxI_spec r n
      have e : m = maxI n r := by
        refine Int.le_antisymm ?_ ?_
        · rcases List.mem_cons.mp hm with rfl | hm
          · exact g2
          · exact g3 m hm
        · rcases g1 with g1 | g1
          · rw [g1]; exact hle n (by simp)
          · exact hle _ (List.mem_cons_of_mem _ g1)
      subst e
      exact here s (.int _) c
  · cases e
theorem s_min : RLS K (rMin K) minG := by
  intro xs as res F H Q e s l c
  unfold minG at e
  split at e
  · obtain ⟨ns, h1, e⟩ := Option.bind_eq_some_iff.mp e
    split at e
    · cases e
    · rename_i n r
      cases e
      obtain ⟨x, rfl, y⟩ := l.one
      obtain ⟨p, rfl, hp⟩ := y.intsL s h1
      refine ⟨p, n :: r, rfl, hp, by simp, fun m hm hle => ?_⟩
      obtain ⟨g1, g2, g3⟩ := minI_spec r n
      have e : m = minI n r := by
        refine Int.le_antisymm ?_ ?_
        · rcases g1 with g1 | g1
          · rw [g1]; exact hle n (by simp)
          · exact hle _ (List.mem_cons_of_mem _ g1)
        · rcases List.mem_cons.mp hm with rfl | hm
          · exact g2
          · exact g3 m hm
      subst e
      exact here s (.int _) c
  · cases e
def blsOf : List T → Option (List Bool)
  | [] => some []
  | .bl b :: r => (blsOf r).map (b :: ·)
  | _ :: _ => none
theorem blsOf_rp {F : Hp} : ∀ {ds : List T} {ns : List Bool} {vs : List V}, blsOf ds = some ns → RpA K F vs ds → vs = ns.map V.bl
  | [], ns, vs, e, a => by
    cases e; cases a; rfl
  | .bl i :: r, ns, vs, e, a => by
    cases a with
    | cons h t =>
      cases h
      unfold blsOf at e
      cases q : blsOf r with
      | none => rw [q] at e; cases e
      | some ms =>
        rw [q] at e
        cases e
        rw [blsOf_rp q t]
        rfl
  | .non :: r, _, _, e, _ | .int _ :: r, _, _, e, _ | .str _ :: r, _, _, e, _ | .tup _ :: r, _, _, e, _ | .lst _ :: r, _, _, e, _ | .frl _ :: r, _, _, e, _ | .dic _ :: r, _, _, e, _ | .dit _ :: r, _, _, e, _ => by cases e
def blsL (a : T) : Option (List Bool) := (a.seqL).bind blsOf
def allG (as : List T) : Option R := match as with
  | [a] => (blsL a).map fun ns => rb (ns.all id)
  | _ => none
def anyG (as : List T) : Option R := match as with
  | [a] => (blsL a).map fun ns => rb (ns.any id)
  | _ => none
theorem s_all : RLS K (rAll K) allG := by
  intro xs as res F H Q e s l c
  unfold allG at e
  split at e
  · obtain ⟨ns, h1, e⟩ := Option.map_eq_some_iff.mp e
    cases e
    obtain ⟨x, rfl, y⟩ := l.one
    obtain ⟨ds, h2, h3⟩ := Option.bind_eq_some_iff.mp h1
    obtain ⟨p, vs, rfl, h4, h5⟩ := y.seqL s h2
    rw [blsOf_rp h3 h5] at h4
    exact ⟨p, ns, rfl, h4, here s (.bl _) c⟩
  · cases e
theorem s_any : RLS K (rAny K) anyG := by
  intro xs as res F H Q e s l c
  unfold anyG at e
  split at e
  · obtain ⟨ns, h1, e⟩ := Option.map_eq_some_iff.mp e
    cases e
    obtain ⟨x, rfl, y⟩ := l.one
    obtain ⟨ds, h2, h3⟩ := Option.bind_eq_some_iff.mp h1
    obtain ⟨p, vs, rfl, h4, h5⟩ := y.seqL s h2
    rw [blsOf_rp h3 h5] at h4
    exact ⟨p, ns, rfl, h4, here s (.bl _) c⟩
  · cases e
/-! ### list, tuple -/
def listG (as : List T) : Option R := match as with
  | [.lst ds] => some ⟨.lst ds, true⟩
  | [.frl ds] => some ⟨.lst ds, true⟩
  | [.tup ds] => some ⟨.lst ds, true⟩
  | _ => none
def rListOf (K : PySem.W.Frag) : List V → Hp → VK → Prop := fun xs H Q => ∃ p ys, xs = [.ref p] ∧ (SqL K H p ys ∨ SqT K H p ys) ∧ ∀ l, H l = none → Q (.ref l) (L2.upd H l (.lst ys))
theorem s_list : RLS K (rListOf K) listG := by
  intro xs as res F H Q e s l c
  unfold listG at e
  split at e
  · cases e
    obtain ⟨x, rfl, y⟩ := l.one
    obtain ⟨p, vs, rfl, hp, ap⟩ := y.lst s
    exact ⟨p, vs, rfl, .inl (SqL.of hp), fun l hl => new_lst s hl ap c⟩
  · cases e
    obtain ⟨x, rfl, y⟩ := l.one
    obtain ⟨p, vs, rfl, hp, ap⟩ := y.frl s
    exact ⟨p, vs, rfl, .inl hp, fun l hl => new_lst s hl ap c⟩
  · cases e
    obtain ⟨x, rfl, y⟩ := l.one
    obtain ⟨p, vs, rfl, hp, ap⟩ := y.tup s
    exact ⟨p, vs, rfl, .inr (SqT.of hp), fun l hl => new_lst s hl ap c⟩
  · cases e
def tupleG (as : List T) : Option R := match as with
  | [.lst ds] => some ⟨.tup ds, false⟩
  | [.frl ds] => some ⟨.tup ds, false⟩
  | [.tup ds] => some ⟨.tup ds, false⟩
  | _ => none
def rTupleOf (K : PySem.W.Frag) : List V → Hp → VK → Prop := fun xs H Q => ∃ p ys, xs = [.ref p] ∧ ((SqL K H p ys ∧ ∀ l, H l = none → Q (.ref l) (L2.upd H l (.tup ys))) ∨ (SqT K H p ys ∧ Q (.ref p) H))
theorem s_tuple : RLS K (rTupleOf K) tupleG := by
  intro xs as res F H Q e s l c
  unfold tupleG at e
  split at e
  · cases e
    obtain ⟨x, rfl, y⟩ := l.one
    obtain ⟨p, vs, rfl, hp, ap⟩ := y.lst s
    exact ⟨p, vs, rfl, .inl ⟨SqL.of hp, fun l hl => new_tup s hl ap c⟩⟩
  · cases e
    obtain ⟨x, rfl, y⟩ := l.one
    obtain ⟨p, vs, rfl, hp, ap⟩ := y.frl s
    exact ⟨p, vs, rfl, .inl ⟨hp, fun l hl => new_tup s hl ap c⟩⟩
  · cases e
    obtain ⟨x, rfl, y⟩ := l.one
    obtain ⟨p, vs, e1, hp, ap⟩ := y.tup s
    subst e1
    rcases y with r | ⟨_, _, o⟩
    · exact ⟨p, vs, rfl, .inr ⟨SqT.of hp, here s r c⟩⟩
    · exact o.elim
  · cases e
/-! ### isinstance -/
def isiB (n : String) : T → Bool
  | .non => n == "NoneType"
  | .bl _ => n == "bool" || n == "int"
  | .int _ => n == "int"
  | .str _ => n == "str"
  | .tup _ => n == "tuple"
  | .lst _ => n == "list"
  | .frl _ => n == "list"
  | .dic _ => n == "dict"
  | .dit _ => n == "dict"
def isiOk (n : String) : Bool := n == "int" || n == "bool" || n == "str" || n == "list" || n == "tuple" || n == "dict"
def isiE (n : String) (f : M (Sls → Option T)) : M R := fun τ => (f τ).bind fun p => (p.1 p.2).map fun d => (rb (isiB n d), p.2)
theorem isi_kit {n : String} (h : isiOk n = true) : PySem.W.kitOne K (.type "NoneType") (.type n) = some (n == "NoneType") ∧ PySem.W.kitOne K (.type "bool") (.type n) = some (n == "bool" || n == "int") ∧ PySem.W.kitOne K (.type "int") (.type n) = some (n == "int") ∧
    PySem.W.kitOne K (.type "str") (.type n) = some (n == "str") ∧ PySem.W.kitOne K (.type "tuple") (.type n) = some (n == "tuple") ∧ PySem.W.kitOne K (.type "list") (.type n) = some (n == "list") ∧ PySem.W.kitOne K (.type "dict") (.type n) = some (n == "dict") := by
  unfold isiOk at h
  simp only [Bool.or_eq_true, beq_iff_eq] at h
  rcases h with ((((rfl | rfl) | rfl) | rfl) | rfl) | rfl
  all_goals exact ⟨kit_ty (by decide +kernel), kit_ty (by decide +kernel), kit_ty (by decide +kernel), kit_ty (by decide +kernel), kit_ty (by decide +kernel), kit_ty (by decide +kernel), kit_ty (by decide +kernel)⟩
/-- isinstance(x, T), T a built-in class by its name -/
theorem e_isi {X : Cx} {x : Expr} {tx : TE} {f : M (Sls → Option T)} {n : Str} {ty : String} {p p2 pos : Pos} (ho : isiOk ty = true) (hg : Gl X "isinstance") (hm : X.mg "isinstance" = none) (hgt : Gl X n) (hmt : X.mg n = none) (hb : bootBuiltins n = some (.type ty)) (hx : EO X x tx f)
    (hn : n ≠ "__name__" := by decide) (hdb : (n == ("__debug__" : Str)) = false := by decide)
    (h1 : starEach [x, .Name n p2] X.env = (false, eval x X.env) :: starEach [.Name n p2] X.env := by rfl) (h2 : starEach [.Name n p2] X.env = (false, eval (.Name n p2) X.env) :: starEach [] X.env := by rfl)
    (hpl : (backTo pos (starEach [.Name n p2] X.env)).any (·.1) = false := by rfl) :
    EE X (.Call (.Name "isinstance" p) [x, .Name n p2] [] pos) (tCB (rIsi X.K) (tCons tx (tCons (tC (.ty ty)) tNil))) (isiE ty f) := by
  refine ⟨pe_callB call_isi hg hm (by decide +kernel) (pa_cons hx.pe (pa_cons (pe_bltn hgt hmt hb rfl hn hdb) pa_nil h2) h1) (by decide) (by decide) h1 hpl, ?_⟩
  intro τ τ' res σ H F Q e k c
  unfold isiE at e
  obtain ⟨q, e1, e⟩ := Option.bind_eq_some_iff.mp e
  obtain ⟨d, e2, e⟩ := Option.map_eq_some_iff.mp e
  cases e
  refine hx.s τ q.2 q.1 σ H F _ e1 k fun v H1 F1 k1 s1 l1 => ?_
  have l := l1 _ _ _ _ k1 .refl e2
  obtain ⟨g1, g2, g3, g4, g5, g6, g7⟩ := isi_kit (K := X.K) ho
  have fin : ∀ b, Q (.bl b) H1 ∨ True := fun _ => .inr trivial
  have cc : Q (.bl (isiB ty d)) H1 := c _ H1 F1 k1 s1 (.inl ⟨rfl, .bl _⟩)
  cases d with
  | non => rw [l.non]; exact ⟨_, _, _, _, _, rfl, .ty ty, .base .non, g1, cc⟩
  | bl b => rw [l.bl]; exact ⟨_, _, _, _, _, rfl, .ty ty, .base (.bl b), g2, cc⟩
  | int b => rw [l.int]; exact ⟨_, _, _, _, _, rfl, .ty ty, .base (.int b), g3, cc⟩
  | str b => rw [l.str]; exact ⟨_, _, _, _, _, rfl, .ty ty, .base (.str b), g4, cc⟩
  | tup ds =>
    obtain ⟨a, vs, rfl, h, _⟩ := l.tup k1.sub
    exact ⟨_, _, _, _, _, rfl, .ty ty, .base (.tup h), g5, cc⟩
  | lst ds =>
    obtain ⟨a, vs, rfl, h, _⟩ := l.lst k1.sub
    exact ⟨_, _, _, _, _, rfl, .ty ty, .base (.lst h), g6, cc⟩
  | frl ds =>
    obtain ⟨a, vs, rfl, h, _⟩ := l.frl k1.sub
    rcases h with (h | ⟨o, h⟩) | ⟨o, its, n, h, hc, _⟩
    · exact ⟨_, _, _, _, _, rfl, .ty ty, .base (.lst h), g6, cc⟩
    · exact ⟨_, _, _, _, _, rfl, .ty ty, .base (.frz h), g6, cc⟩
    · exact ⟨_, _, _, _, _, rfl, .ty ty, .kList h hc, g6, cc⟩
  | dic ds =>
    obtain ⟨a, kvs, rfl, h, _⟩ := l.dic k1.sub
    rcases h with h | ⟨o, h⟩
    · exact ⟨_, _, _, _, _, rfl, .ty ty, .base (.dK h), g7, cc⟩
    · exact ⟨_, _, _, _, _, rfl, .ty ty, .fDict h, g7, cc⟩
  | dit ds =>
    obtain ⟨a, kvs, rfl, h, _⟩ := l.dit k1.sub
    exact ⟨_, _, _, _, _, rfl, .ty ty, .base (.dT h), g7, cc⟩
end
end TR

namespace TR
open PySem L2
/-! ### sorting: an insertion sort that the kernel can run -/
section
variable {α β : Type}
def insT (le : α → α → Bool) (x : α) : List α → List α
  | [] => [x]
  | y :: r => if le x y = true then x :: y :: r else y :: insT le x r
def isort (le : α → α → Bool) : List α → List α
  | [] => []
  | x :: r => insT le x (isort le r)
theorem insT_perm (le : α → α → Bool) (x : α) : ∀ l : List α, (insT le x l).Perm (x :: l)
  | [] => .refl _
  | y :: r => by
    rw [insT]
    split
    · exact .refl _
    · exact ((insT_perm le x r).cons y).trans (List.Perm.swap x y r)
theorem isort_perm (le : α → α → Bool) : ∀ l : List α, (isort le l).Perm l
  | [] => .refl _
  | x :: r => (insT_perm le x _).trans ((isort_perm le r).cons x)
theorem insT_pair {le : α → α → Bool} (h : PySem.W.TotalLe le) (x : α) : ∀ l : List α, l.Pairwise (fun a b => le a b = true) → (insT le x l).Pairwise (fun a b => le a b = true)
  | [], _ => by simp [insT]
  | y :: r, hp => by
    rw [insT]
    rw [List.pairwise_cons] at hp
    split
    · rename_i hx
      refine List.pairwise_cons.mpr ⟨fun z hz => ?_, List.pairwise_cons.mpr hp⟩
      rcases List.mem_cons.mp hz with rfl | hz
      · exact hx
      · exact h.trans _ _ _ hx (hp.1 z hz)
    · rename_i hx
      refine List.pairwise_cons.mpr ⟨fun z hz => ?_, insT_pair h x r hp.2⟩
      rcases List.mem_cons.mp ((insT_perm le x r).mem_iff.mp hz) with rfl | hz
      · exact (h.total _ _).resolve_left hx
      · exact hp.1 z hz
theorem isort_pair {le : α → α → Bool} (h : PySem.W.TotalLe le) : ∀ l : List α, (isort le l).Pairwise (fun a b => le a b = true)
  | [] => .nil
  | x :: r => insT_pair h x _ (isort_pair h r)
theorem insT_rank {le : α → α → Bool} (h : PySem.W.TotalLe le) (c x : α) : ∀ l : List α, l.Pairwise (fun a b => le a b = true) → (insT le x l).filter (PySem.W.sameRank le c) = (x :: l).filter (PySem.W.sameRank le c)
  | [], _ => rfl
  | y :: r, hp => by
    rw [insT]
    rw [List.pairwise_cons] at hp
    split
    · rfl
    · rename_i hx
      have ih := insT_rank h c x r hp.2
      by_cases hc : PySem.W.sameRank le c x = true
      · have hy : ¬ PySem.W.sameRank le c y = true := fun z => by
          unfold PySem.W.sameRank at hc z
          rw [Bool.and_eq_true] at hc z
          exact hx (h.trans _ _ _ hc.2 z.1)
        rw [List.filter_cons_of_neg hy, ih, List.filter_cons_of_pos hc, List.filter_cons_of_pos hc, List.filter_cons_of_neg hy]
      · rw [List.filter_cons_of_neg hc] at ih ⊢
        by_cases hy : PySem.W.sameRank le c y = true
        · rw [List.filter_cons_of_pos hy, List.filter_cons_of_pos hy, ih]
        · rw [List.filter_cons_of_neg hy, List.filter_cons_of_neg hy, ih]
theorem isort_rank {le : α → α → Bool} (h : PySem.W.TotalLe le) (c : α) : ∀ l : List α, (isort le l).filter (PySem.W.sameRank le c) = l.filter (PySem.W.sameRank le c)
  | [] => rfl
  | x :: r => by
    rw [isort, insT_rank h c x _ (isort_pair h r)]
    by_cases hc : PySem.W.sameRank le c x = true
    · rw [List.filter_cons_of_pos hc, List.filter_cons_of_pos hc, isort_rank h c r]
    · rw [List.filter_cons_of_neg hc, List.filter_cons_of_neg hc, isort_rank h c r]
theorem isort_merge {le : α → α → Bool} (h : PySem.W.TotalLe le) (l : List α) : isort le l = l.mergeSort le := PySem.W.sort_unique h (isort_pair h l) fun c => isort_rank h c l
theorem insT_map {le : β → β → Bool} (f : α → β) (x : α) : ∀ l : List α, (insT (fun a b => le (f a) (f b)) x l).map f = insT le (f x) (l.map f)
  | [] => rfl
  | y :: r => by
    rw [insT, List.map_cons, insT]
    split
    · rfl
    · rw [List.map_cons, insT_map f x r]
theorem isort_map {le : β → β → Bool} (f : α → β) : ∀ l : List α, (isort (fun a b => le (f a) (f b)) l).map f = isort le (l.map f)
  | [] => rfl
  | x :: r => by rw [isort, insT_map, isort_map f r]; rfl
end
def leT (a b : T) : Bool := PySem.W.dataLe false T.toD a b
def sortT (ds : List T) : List T := isort leT ds
def isTup1 : T → Bool
  | .tup (_ :: _) => true
  | _ => false
def notTN : T → Bool
  | .tup _ => false
  | .non => false
  | _ => true
/-- all of one kind, place by place; not too deep -/
def sortOk (ds : List T) : Bool := layA ds && (decide (depA ds ≤ 60) && (decide (ds.length ≤ sizeLine) && ((ds.all isTup1 || ds.all notTN) && ds.all fun a => ds.all fun b => PySem.W.alike a.toD b.toD)))
def sortedG (as : List T) : Option R := match as with
  | [.lst ds] => if sortOk ds = true then some ⟨.lst (sortT ds), true⟩ else none
  | _ => none
def zipLe (p q : V × T) : Bool := leT p.2 q.2
def rSortedT (K : PySem.W.Frag) : List V → Hp → VK → Prop := fun xs H Q => ∃ (a : Addr) (vs : List V) (ds : List T), xs = [.ref a] ∧ SqL K H a vs ∧ DpAll K H vs (toDA ds) ∧ sortOk ds = true ∧
  ∀ p, H p = none → Q (.ref p) (L2.upd H p (.lst ((isort zipLe (vs.zip ds)).map (·.1))))
theorem toDA_map : ∀ ds : List T, toDA ds = ds.map T.toD
  | [] => rfl
  | d :: r => congrArg (d.toD :: ·) (toDA_map r)
theorem mem_depA : ∀ {ds : List T} {d : T}, d ∈ ds → d.dep ≤ depA ds
  | x :: r, d, h => by
    rw [depA]
    rcases List.mem_cons.mp h with rfl | h
    · exact Nat.le_max_left _ _
    · exact Nat.le_trans (mem_depA h) (Nat.le_max_right _ _)
theorem dpAll_length {K : PySem.W.Frag} {H : Hp} : ∀ {vs : List V} {ds : List PyData}, DpAll K H vs ds → vs.length = ds.length
  | _, _, .nil => rfl
  | _, _, .cons _ b => congrArg Nat.succ (dpAll_length b)
theorem call_sortedT {X : Cx} (hu : X.A.units + 64 < cLine) : CallR X (.builtin "sorted") (rSortedT X.K) := by
  intro pins s σ H xs us Q I r h
  obtain ⟨a, vs, ds, rfl, hs, hd, ok, q⟩ := h
  obtain ⟨its, rv, hl, hz⟩ := I.list hs
  rw [Vals.ref1 r]
  unfold sortOk at ok
  simp only [Bool.and_eq_true, Bool.or_eq_true, decide_eq_true_eq, List.all_eq_true] at ok
  obtain ⟨o1, o2, o3, o4, o5⟩ := ok
  have lvd : vs.length = ds.length := by
    have := dpAll_length hd
    rw [toDA_map, List.length_map] at this
    exact this
  have e1 : ∀ {vs : List V} {ds : List T} {its : List Value}, Vals vs its → vs.length = ds.length → DpAll X.K H vs (toDA ds) → PySem.W.EachIs (fun v (b : V × T) => RelV b.1 v ∧ ∃ as, Reads s.heap v b.2.toD as) its (vs.zip ds) := by
    intro vs
    induction vs with
    | nil => intro ds its r l d; cases r; exact .nil
    | cons v vs ih =>
      intro ds its r l d
      cases ds with
      | nil => cases l
      | cons t ds =>
        cases r with
        | cons r1 r2 =>
          cases d with
          | cons d1 d2 => exact .cons ⟨r1, Dp.reads I _ _ _ d1 r1⟩ (ih r2 (by simpa using l) d2)
  have ee := e1 rv lvd hd
  have tot : PySem.W.TotalLe (PySem.W.dataLe (β := V × T) false fun b => b.2.toD) := PySem.W.sortLe_total _ _ _
  have mem2 : ∀ {b : V × T}, b ∈ vs.zip ds → b.2 ∈ ds := fun {b} hb => (List.of_mem_zip (a := b.1) (b := b.2) hb).2
  refine PySem.W.sorted_data (β := V × T) (bs := vs.zip ds) (enc := fun b => b.2.toD) (R := fun v b => RelV b.1 v) hl.isList (ee.mono fun _ _ h => h.1) (ee.mono fun _ _ h => h.2) (fun d hd' d' hd'' => ?_) ?_ ?_ (fun b hb => ?_) fun out hlen eo => ?_
  · obtain ⟨b, hb, rfl⟩ := List.mem_map.mp hd'
    obtain ⟨b', hb', rfl⟩ := List.mem_map.mp hd''
    exact o5 _ (mem2 hb) _ (mem2 hb')
  · refine o4.imp (fun h d hd' => ?_) fun h d hd' => ?_
    · obtain ⟨b, hb, rfl⟩ := List.mem_map.mp hd'
      have := h _ (mem2 hb)
      cases e : b.2 with
      | tup xs =>
        cases xs with
        | nil => rw [e] at this; cases this
        | cons x r => exact ⟨x.toD, toDA r, rfl⟩
      | _ => rw [e] at this; cases this
    · obtain ⟨b, hb, rfl⟩ := List.mem_map.mp hd'
      have := h _ (mem2 hb)
      cases e : b.2 <;> rw [e] at this <;> first | (cases this; done) | exact ⟨fun z => (nomatch z), fun xs z => (nomatch z)⟩
  · rw [List.length_zip, ← lvd, Nat.min_self]
    exact hz
  · have h1 := mem_depA (mem2 hb)
    rw [dep_toD]
    omega
  · rw [← isort_merge tot] at eo
    obtain ⟨ep, he'⟩ := PyProof.Rows.sortedAll_at s.heap its out.toArray
    have vo : ∀ {out : List Value} {bs : List (V × T)}, PySem.W.EachIs (fun v (b : V × T) => RelV b.1 v) out bs → Vals (bs.map (·.1)) out := by
      intro out bs h
      induction h with
      | nil => exact .nil
      | cons h _ ih => exact .cons h ih
    have hlen2 : ((isort zipLe (vs.zip ds)).map (·.1)).length ≤ sizeLine := by
      rw [List.length_map, (isort_perm _ _).length_eq, List.length_zip, ← lvd, Nat.min_self]
      exact hz
    exact ⟨.ref _, L2.upd H (s.heap.objs.size + 1) (.lst ((isort zipLe (vs.zip ds)).map (·.1))), I.laid (t' := s.toks) (fun _ _ => PyProof.Rows.sortedAll_old) (Nat.le_succ _) ⟨hlen2, out, ep, vo eo, he'⟩, rfl, q _ (I.hok.fresh (Nat.le_succ _))⟩
theorem RpA.zip {K : PySem.W.Frag} {F : Hp} : ∀ {vs : List V} {ds : List T}, RpA K F vs ds → ∀ p ∈ vs.zip ds, Rp K F p.1 p.2
  | _, _, .nil, _, h => by simp at h
  | _, _, .cons a b, p, h => by
    rw [List.zip_cons_cons] at h
    rcases List.mem_cons.mp h with rfl | h
    · exact a
    · exact b.zip p h
theorem RpA.of_pairs {K : PySem.W.Frag} {F : Hp} : ∀ {l : List (V × T)}, (∀ p ∈ l, Rp K F p.1 p.2) → RpA K F (l.map (·.1)) (l.map (·.2))
  | [], _ => .nil
  | p :: r, h => .cons (h p (List.mem_cons_self ..)) (RpA.of_pairs fun q hq => h q (List.mem_cons_of_mem _ hq))
theorem s_sorted {K : PySem.W.Frag} : RLS K (rSortedT K) sortedG := by
  intro xs as res F H Q e s l c
  unfold sortedG at e
  split at e
  · split at e
    · rename_i ds ok
      cases e
      obtain ⟨x, rfl, y⟩ := l.one
      obtain ⟨p, vs, rfl, hp, ap⟩ := y.lst s
      have lay : layA ds = true := by
        unfold sortOk at ok
        exact (Bool.and_eq_true_iff.mp ok).1
      refine ⟨p, vs, ds, rfl, SqL.of hp, (ap.mono s).dp lay, ok, fun l hl => ?_⟩
      have q : RpA K F ((isort zipLe (vs.zip ds)).map (·.1)) ((isort zipLe (vs.zip ds)).map (·.2)) := RpA.of_pairs fun p hp => ap.zip p ((isort_perm _ _).mem_iff.mp hp)
      have e2 : (isort zipLe (vs.zip ds)).map (·.2) = sortT ds := by
        have := isort_map (le := leT) (fun p : V × T => p.2) (vs.zip ds)
        rw [show (fun p : V × T => p.2) = Prod.snd from rfl, List.map_snd_zip (by rw [ap.length]; exact Nat.le_refl _)] at this
        exact this
      rw [e2] at q
      exact new_lst s hl q c
    · cases e
  · cases e
end TR

namespace TR
open PySem L2
section
variable {X : Cx} {st : Stmt} {rest : List Stmt} {t u : TS} {f g : Sls → Option Out} {e : Expr} {te : TE} {pos pos' : Pos}
theorem l_nil : EL X [] tNext skS := ⟨pss_nil, s_skip⟩
theorem l_cons (h : ES X st t f) (r : EL X rest u g) : EL X (st :: rest) (tSeq t u) (sqS f g) := ⟨pss_cons h.pe r.pe, s_seq h.s r.s⟩
theorem l_one (h : ES X st t f) : EL X [st] t f := ⟨pss_one h.pe, h.s⟩
theorem st_pass : ES X (.Pass pos) tNext skS := ⟨ps_pass, s_skip⟩
theorem st_brk : ES X (.Break pos) tBreak bkS := ⟨ps_break, s_bk⟩
theorem st_cont : ES X (.Continue pos) tCont ctS := ⟨ps_continue, s_ct⟩
theorem st_set {i : Nat} {x : Str} {fe : M R} (hN : X.N.Nodup) (hi : X.N[i]? = some x) (hx : Loc X.env.scope x) (he : EE X e te fe) (hs : swapsWith e (some (.Name x pos')) pos.line X.env = pure false := by rfl)
    (hf : X.fn x = true ∨ X.env.scope.names.lookup x = some .local := by first | exact .inl rfl | exact .inr rfl) : ES X (.Assign [.Name x pos'] e pos) (tAsg te (gName i)) (asgS i fe) := ⟨ps_set hN hi hx he.pe hs hf, s_asg he.s⟩
theorem st_expr {fe : M R} (he : EE X e te fe) (hs : swapsWith e none pos.line X.env = pure false := by rfl) : ES X (.Expr e pos) (tDrop te) (exS fe) := ⟨ps_expr he.pe hs, s_expr he.s⟩
theorem st_ret {fe : M R} (he : EE X e te fe) : ES X (.Return (some e) pos) (tRet te) (rtS fe) := ⟨ps_ret he.pe, s_ret he.s⟩
theorem st_retN : ES X (.Return none pos) tRetN rtN := ⟨ps_retN, s_retN⟩
theorem st_mv (i : Nat) {x : Str} {p : Pos} (hN : X.N[i]? = some x := by rfl) (hv : Vis X.env.scope x := by first | exact Or.inl rfl | exact Or.inr (Or.inl rfl) | exact Or.inr (Or.inr rfl)) (hd : (x == ("__debug__" : Str)) = false := by decide)
    (hcd : (x == ("__classdict__" : Str)) = false := by decide) : ES X (.Return (some (.Name x p)) pos) (tRet (tVar i)) (mvS i) := ⟨ps_ret (pe_var hN hv hd hcd), s_move⟩
theorem st_if {c : Expr} {a b : List Stmt} {tc : TT} {fc : M Bool} (hc : EB X c tc fc) (ha : EL X a t f) (hb : EL X b u g) : ES X (.If c a b pos) (tIfS tc t u) (ifS fc f g) := ⟨ps_if hc.pe ha.pe hb.pe, s_if hc.s ha.s hb.s⟩
theorem st_while {c : Expr} {body : List Stmt} {tc : TT} {fc : M Bool} (n : Nat) (hp : PassesOwn (model X.prog X.w) X.A X.env X.xe) (hc : EB X c tc fc) (hb : EL X body t f) : ES X (.While c body [] pos) (tWhile tc t) (whS fc f n) :=
  ⟨ps_while hp hc.pe hb.pe, s_while hc.s hb.s⟩
theorem st_for {tg iter : Expr} {body : List Stmt} {wi : TI} {tgt : TG} {L : List Nat} {it : M (List T)} {gg : T → Sls → Option Sls} (hp : PassesOwn (model X.prog X.w) X.A X.env X.xe) (hc : X.calm = true) (hi : EI X tg iter wi it) (hg : EG X tg tgt L gg) (hb : EL X body t f)
    (hs : ∀ x, foldedSetIterable iter X.env x = pure x := by intro _; rfl) : ES X (.For tg iter body [] pos) (tFor wi tgt t) (forS it gg f) := ⟨ps_for hp hc hi.pe hg.pe hb.pe hs, s_for hi.s hg.s hb.s⟩
theorem st_ix {x : Str} {i : Expr} {ti : TE} {fe fi : M T} {p tpos : Pos} (j : Nat) (hu : X.A.units + 1 < cLine) (he : EV X e te fe) (hi : EV X i ti fi) (hN : X.N[j]? = some x := by rfl) (hv : Vis X.env.scope x := by first | exact Or.inl rfl | exact Or.inr (Or.inl rfl) | exact Or.inr (Or.inr rfl))
    (hd : (x == ("__debug__" : Str)) = false := by decide) (hcd : (x == ("__classdict__" : Str)) = false := by decide)
    (ha : ∀ v, assign (.Subscript (.Name x p) i tpos) X.env v = (do
      let ov ← holding [v] (eval (.Name x p) X.env)
      let iv ← holding [v, ov] (eval i X.env)
      standAt tpos
      holding [v, ov, iv] (setItem ov iv v)
      release [v, ov, iv] []) := by intro _; rfl)
    (hs : swapsWithSole [.Subscript (.Name x p) i tpos] e pos.line X.env = pure false := by rfl) (hw : swappedStores [.Subscript (.Name x p) i tpos] e X.env = pure none := by rfl)
    (h1 : (assignEach [.Subscript (.Name x p) i tpos] X.env).map (·.2) = [assign (.Subscript (.Name x p) i tpos) X.env] := by rfl) :
    ES X (.Assign [.Subscript (.Name x p) i tpos] e pos) (tAsg te (gSub (tVar j) ti rSetG)) (ixS j fe fi) := ⟨ps_asg he.pe (pg_sub (pe_var hN hv hd hcd) hi.pe (set_G hu) ha) hs hw h1, s_ixS he.s hi.s⟩
/-- a, b = e -/
def tuS (fe : M T) (g : T → Sls → Option Sls) : Sls → Option Out := fun τ => (fe τ).bind fun p => (g p.1 p.2).map .nx
theorem st_tup {tg : Expr} {tgt : TG} {L : List Nat} {fe : M T} {gg : T → Sls → Option Sls} (he : EV X e te fe) (hg : EG X tg tgt L gg) (hs : swapsWithSole [tg] e pos.line X.env = pure false := by rfl) (hw : swappedStores [tg] e X.env = pure none := by rfl)
    (h1 : (assignEach [tg] X.env).map (·.2) = [assign tg X.env] := by rfl) : ES X (.Assign [tg] e pos) (tAsg te tgt) (tuS fe gg) := by
  refine ⟨ps_asg he.pe hg.pe hs hw h1, ?_⟩
  intro τ out σ H F D ee k c
  unfold tuS at ee
  obtain ⟨p, h1, ee⟩ := Option.bind_eq_some_iff.mp ee
  obtain ⟨τ1, h2, ee⟩ := Option.map_eq_some_iff.mp ee
  cases ee
  exact he.s τ p.2 p.1 σ H F _ h1 k fun v H1 F1 k1 s1 r1 => hg.s _ v p.2 τ1 σ H1 F1 _ h2 k1 r1 fun σ' k2 s2 _ _ => c σ' H1 F1 k2 (s1.trans s2)
/-- a, b = x, y: two local names -/
def parS (i j : Nat) (fa : M (List T)) : Sls → Option Out := fun τ => (fa τ).bind fun p => match p.1 with
  | [a, b] => (bnd p.2 i ⟨a, false⟩).bind fun τ1 => (bnd τ1 j ⟨b, false⟩).map .nx
  | _ => none
theorem st_par {i j : Nat} {x y : Str} {a b : Expr} {ta : TA} {fa : M (List T)} {px py pt : Pos} {kt k2 pt2} (hc : X.calm = true) (hN : X.N.Nodup) (hi : X.N[i]? = some x) (hj : X.N[j]? = some y) (hij : i ≠ j)
    (hx : X.env.scope.names.lookup x = some .local) (hy : X.env.scope.names.lookup y = some .local) (ha : EAV X [a, b] ta fa)
    (hw : swappedStores [.Tuple [.Name x px, .Name y py] kt pt] (.Tuple [a, b] k2 pt2) X.env = pure (some [x, y]))
    (hs : swapsWithSole [.Tuple [.Name x px, .Name y py] kt pt] (.Tuple [a, b] k2 pt2) pos.line X.env = pure false := by rfl) :
    ES X (.Assign [.Tuple [.Name x px, .Name y py] kt pt] (.Tuple [a, b] k2 pt2) pos) (tPar i j ta) (parS i j fa) := by
  refine ⟨ps_par hc hN hi hj hij hx hy ha.pe hw hs, ?_⟩
  intro τ out σ H F D ee k c
  unfold parS at ee
  obtain ⟨p, h1, ee⟩ := Option.bind_eq_some_iff.mp ee
  split at ee
  · rename_i d1 d2 hp
    obtain ⟨τ1, h2, ee⟩ := Option.bind_eq_some_iff.mp ee
    obtain ⟨τ2, h3, ee⟩ := Option.map_eq_some_iff.mp ee
    cases ee
    refine ha.s τ p.2 p.1 σ H F _ h1 k fun vs H1 F1 k1 s1 r1 => ?_
    rw [hp] at r1
    cases r1 with
    | cons a1 b1 =>
      cases b1 with
      | cons b1 n1 =>
        cases n1
        obtain ⟨k2, s2⟩ := bnd_ok (τ0 := p.2) (σ0 := σ) (H0 := H1) (F0 := F1) k1 .refl (.inl ⟨rfl, a1⟩) h2
        obtain ⟨k3, s3⟩ := bnd_ok (τ0 := p.2) (σ0 := σ) (H0 := H1) (F0 := F1) k2 s2 (.inl ⟨rfl, b1⟩) h3
        exact ⟨_, _, rfl, c _ H1 F1 k3 (s1.trans s3)⟩
  · cases ee

/-! ### targets -/
theorem g_name {i : Nat} {x : Str} (hN : X.N.Nodup) (hi : X.N[i]? = some x) (hx : Loc X.env.scope x) (hf : X.fn x = true ∨ X.env.scope.names.lookup x = some .local := by first | exact .inl rfl | exact .inr rfl) : EG X (.Name x pos) (gName i) [i] (gN i) :=
  ⟨pg_name hN hi hx hf, s_gN⟩
theorem gs_nil : EGs X [] gNil [] 0 gsNil := ⟨pgs_nil, s_gsNil⟩
theorem gs_cons {es : List Expr} {t : TG} {u : TGs} {L L' : List Nat} {n : Nat} {f : T → Sls → Option Sls} {g : List T → Sls → Option Sls} (h1 : EG X e t L f) (h2 : EGs X es u L' n g)
    (hs : (assignEach (e :: es) X.env).map (·.2) = assign e X.env :: (assignEach es X.env).map (·.2) := by rfl) : EGs X (e :: es) (gCons t u) (L ++ L') (n + 1) (gsCons f g) := ⟨pgs_cons h1.pe h2.pe hs, s_gsCons h1.s h2.s⟩
theorem g_tup {es : List Expr} {kk : Nat} {t : TGs} {L : List Nat} {n : Nat} {g : List T → Sls → Option Sls} (hc : X.calm = true) (h : EGs X es t L n g)
    (hn : (assignEach es X.env).length = n := by rfl) (hst : (assignEach es X.env).findIdx? (·.1) = none := by rfl) : EG X (.Tuple es kk pos) (gTup X.K n t) L (gT g) := ⟨pg_tup hc h.pe hn hst, s_gT h.s⟩

/-! ### what is walked -/
theorem i_list {tg : Expr} {fe : M T} (he : EV X e te fe) : EI X tg e (iList X.K te) (lstI fe) := ⟨pi_list he.pe, s_lstI he.s⟩
theorem i_tup {tg : Expr} {fe : M T} (he : EV X e te fe) : EI X tg e (iTup X.K te) (tupI fe) := ⟨pi_tup he.pe, s_tupI he.s⟩
theorem i_rng1 {tg : Expr} {ta : TA} {fa : M (List (Sls → Option T))} {p : Pos} (hg : Gl X "range") (hm : X.mg "range" = none) (ha : EAO X [e] ta fa) (hs : starEach [e] X.env = [(false, eval e X.env)] := by rfl) :
    EI X tg (.Call (.Name "range" p) [e] [] pos) (iRng1 ta) (rng1 fa) := ⟨pi_range1 hg hm ha.pe hs, s_rng1 ha.s⟩
theorem i_rng2 {tg e2 : Expr} {ta : TA} {fa : M (List (Sls → Option T))} {p : Pos} (hg : Gl X "range") (hm : X.mg "range" = none) (ha : EAO X [e, e2] ta fa) (hs : starEach [e, e2] X.env = [(false, eval e X.env), (false, eval e2 X.env)] := by rfl) (hs2 : starEach [e2] X.env = [(false, eval e2 X.env)] := by rfl) :
    EI X tg (.Call (.Name "range" p) [e, e2] [] pos) (iRng2 ta) (rng2 fa) := ⟨pi_range2 hg hm ha.pe hs hs2, s_rng2 ha.s⟩
def enuT (i : Nat) : List T → List T
  | [] => []
  | d :: r => .tup [.int i, d] :: enuT (i + 1) r
theorem enuT_get : ∀ (ds : List T) (n i : Nat), (enuT n ds)[i]? = (ds[i]?).map fun d => .tup [.int ((n + i : Nat) : Int), d]
  | [], _, _ => by simp [enuT]
  | d :: r, n, 0 => by simp [enuT]
  | d :: r, n, i + 1 => by
    rw [enuT, List.getElem?_cons_succ, List.getElem?_cons_succ, enuT_get r (n + 1) i]
    have e : n + 1 + i = n + (i + 1) := by omega
    rw [e]
theorem enuT_length : ∀ (ds : List T) (n : Nat), (enuT n ds).length = ds.length
  | [], _ => rfl
  | _ :: r, n => congrArg Nat.succ (enuT_length r (n + 1))
def enuI (fa : M (List T)) : M (List T) := fun τ => (fa τ).bind fun p => match p.1 with
  | [d] => (d.seqL).map fun ds => (enuT 0 ds, p.2)
  | _ => none
theorem i_enum {ta : TA} {fa : M (List T)} {p tpos : Pos} {elts : List Expr} {kk : Nat} (hg : Gl X "enumerate") (hm : X.mg "enumerate" = none) (ha : EAV X [e] ta fa) (hs : starEach [e] X.env = [(false, eval e X.env)] := by rfl) :
    EI X (.Tuple elts kk tpos) (.Call (.Name "enumerate" p) [e] [] pos) (iEnum X.K ta) (enuI fa) := by
  refine ⟨pi_enum hg hm ha.pe hs, ?_⟩
  intro τ τ' ds σ H F R ee k c
  unfold enuI at ee
  obtain ⟨q, h1, ee⟩ := Option.bind_eq_some_iff.mp ee
  split at ee
  · rename_i d hq
    obtain ⟨es, h2, ee⟩ := Option.map_eq_some_iff.mp ee
    cases ee
    refine ha.s τ q.2 q.1 σ H F _ h1 k fun vs H1 F1 k1 s1 r1 => ?_
    rw [hq] at r1
    cases r1 with
    | cons a b =>
      cases b
      obtain ⟨aa, ws, rfl, hs, ra⟩ := Lk.seqL (H := F1) (fun _ _ z => z) (.inl a) h2
      refine ⟨aa, ws, rfl, k1.sub.seq hs, c _ H1 F1 k1 s1 ⟨fun H2 s2 => ⟨ws, s2.seq hs, by rw [enuT_length, ra.length]; exact Nat.le_refl _⟩, fun i d H2 F2 hi s2 s3 => ?_⟩⟩
      rw [enuT_get] at hi
      obtain ⟨d', hd, rfl⟩ := Option.map_eq_some_iff.mp hi
      obtain ⟨v, hv, rv⟩ := ra.get hd
      have hq2 : SqL X.K H2 aa ws := s3.seq (s2.seq hs)
      refine ⟨⟨ws, v, hq2, hv⟩, fun x H3 y => ?_⟩
      obtain ⟨T', x', rfl, hT, rfl, hx⟩ := y
      have hx' := hx ws hq2
      rw [hv] at hx'
      cases hx'
      have g := Grow.upd (o := .tup [.int (i : Nat), v]) s3 hT
      refine ⟨_, g, .tup upd_same (.cons ?_ (.one (rv.mono (s2.trans g.ff))))⟩
      rw [Nat.zero_add]
      exact .int _
  · cases ee

/-! ### comprehensions -/
structure ET (X : Cx) (ifs : List Expr) (tt : TT) (f : M Bool) : Prop where
  pe : PTs X ifs tt
  s : SB X.K tt f
def yesB : M Bool := fun τ => some (true, τ)
theorem t_nil : ET X [] tYes yesB := ⟨pts_nil, fun τ τ' b σ H F Q e k c => by cases e; exact c H F k .refl⟩
theorem t_one {c : Expr} {tt : TT} {f : M Bool} (h : EB X c tt f) : ET X [c] tt f := ⟨pts_one h.pe, h.s⟩
variable {elt tg iter : Expr} {ifs : List Expr} {scope : Scope} {own : List (Str × Nat)} {wi : TI} {gt : TG} {tt : TT} {L : List Nat} {it : M (List T)} {gg : T → Sls → Option Sls} {cnd : M Bool} {fe : M T}
theorem e_lc (hc : X.calm = true) (hN : X.N.Nodup) (hi : EI X tg iter wi it) (ok : BlkOk X.N X.env.scope scope own)
    (hg : ∀ (s : Shared) (H : Hp) (C : Addr) (cl : List (Str × Addr)) (fp : List Addr), EG (X.blk s H scope (compEnvC scope cl C X.env) fp) tg gt L gg) (ht : ∀ (s : Shared) (H : Hp) (C : Addr) (cl : List (Str × Addr)) (fp : List Addr), ET (X.blk s H scope (compEnvC scope cl C X.env) fp) ifs tt cnd)
    (he : ∀ (s : Shared) (H : Hp) (C : Addr) (cl : List (Str × Addr)) (fp : List Addr), EV (X.blk s H scope (compEnvC scope cl C X.env) fp) elt te fe) (hL : ∀ j ∈ L, j ∈ own.map (·.2)) (hs : ∀ x, foldedSetIterable iter X.env x = pure x := by intro _; rfl) :
    EE X (.ListComp elt [⟨tg, iter, ifs, 0⟩] scope pos) (tLc wi gt tt te (own.map (·.2))) (lcE it gg cnd fe (own.map (·.2))) :=
  ⟨pe_lc hc hN hi.pe ok (fun s H C cl fp => (hg s H C cl fp).pe) (fun s H C cl fp => (ht s H C cl fp).pe) (fun s H C cl fp => (he s H C cl fp).pe) hs,
    lcL_run hi.s (hg X.s_0 X.H_0 0 [] []).s (ht X.s_0 X.H_0 0 [] []).s (he X.s_0 X.H_0 0 [] []).s hL⟩
/-- y = [..], y a local -/
theorem st_lc {i : Nat} {y : Str} {py spos : Pos} (hc : X.calm = true) (hN : X.N.Nodup) (hy : X.N[i]? = some y) (hyl : X.env.scope.names.lookup y = some .local)
    (hsw : swapsWith (.ListComp elt [⟨tg, iter, ifs, 0⟩] scope pos) (some (.Name y py)) spos.line X.env = pure true) (hi : EI X tg iter wi it) (ok : BlkOk X.N X.env.scope scope own)
    (hg : ∀ (s : Shared) (H : Hp) (C : Addr) (cl : List (Str × Addr)) (fp : List Addr), EG (X.blk s H scope (compEnvC scope cl C X.env) fp) tg gt L gg) (ht : ∀ (s : Shared) (H : Hp) (C : Addr) (cl : List (Str × Addr)) (fp : List Addr), ET (X.blk s H scope (compEnvC scope cl C X.env) fp) ifs tt cnd)
    (he : ∀ (s : Shared) (H : Hp) (C : Addr) (cl : List (Str × Addr)) (fp : List Addr), EV (X.blk s H scope (compEnvC scope cl C X.env) fp) elt te fe) (hL : ∀ j ∈ L, j ∈ own.map (·.2)) (hs : ∀ x, foldedSetIterable iter X.env x = pure x := by intro _; rfl) :
    ES X (.Assign [.Name y py] (.ListComp elt [⟨tg, iter, ifs, 0⟩] scope pos) spos) (tAsg (tLc wi gt tt te (own.map (·.2))) (gName i)) (asgS i (lcE it gg cnd fe (own.map (·.2)))) :=
  ⟨ps_setLc hc hN hy hyl hsw hi.pe ok (fun s H C cl fp => (hg s H C cl fp).pe) (fun s H C cl fp => (ht s H C cl fp).pe) (fun s H C cl fp => (he s H C cl fp).pe) hs,
    s_asg (lcL_run hi.s (hg X.s_0 X.H_0 0 [] []).s (ht X.s_0 X.H_0 0 [] []).s (he X.s_0 X.H_0 0 [] []).s hL)⟩
end
/-! ### slices, methods, calls -/
structure EP (X : Cx) (e : Option Expr) (t : TO) (f : M (Option Int)) : Prop where
  pe : PO X e t
  s : ∀ (τ τ' : Sls) (o : Option Int) (σ : L2.St) (H F : Hp) (Q : Option Int → Hp → Prop), f τ = some (o, τ') → Ok X.K F τ σ H → (∀ H' F', Ok X.K F' τ' σ H' → Stp τ σ H F τ' σ H' F' → Q o H') → t σ H Q
def noP : M (Option Int) := fun τ => some (none, τ)
def soP (f : M T) : M (Option Int) := fun τ => (f τ).bind fun p => match p.1 with
  | .int i => some (some i, p.2)
  | _ => none
def slE (fa : M (Sls → Option T)) (fl fh : M (Option Int)) : M R := fun τ => (fa τ).bind fun p => (fl p.2).bind fun l => (fh l.2).bind fun h => (p.1 h.2).bind fun d => (slG d l.1 h.1).map fun r => (r, h.2)
section
variable {X : Cx} {e : Expr} {te : TE} {pos p2 : Pos} {lo hi : Option Expr} {tl th : TO} {fa : M (Sls → Option T)} {fl fh : M (Option Int)}
theorem p_no : EP X none tNoPart noP := ⟨po_none, fun τ τ' o σ H F Q e k c => by cases e; exact c H F k .refl⟩
theorem p_so {f : M T} (h : EV X e te f) : EP X (some e) (tPart te) (soP f) := by
  refine ⟨po_some h.pe, fun τ τ' o σ H F Q e k c => ?_⟩
  unfold soP at e
  obtain ⟨p, h1, e⟩ := Option.bind_eq_some_iff.mp e
  split at e
  · rename_i i hp
    cases e
    refine h.s τ p.2 p.1 σ H F _ h1 k fun v H' F' k' s' r => ?_
    rw [hp] at r
    cases r
    exact ⟨i, rfl, c H' F' k' s'⟩
  · cases e
theorem e_sl (he : EO X e te fa) (hl : EP X lo tl fl) (hh : EP X hi th fh) : EE X (.Subscript e (.Slice lo hi none p2) pos) (tSl (rSlG X.K) te tl th) (slE fa fl fh) := by
  refine ⟨pe_slice sl_G he.pe hl.pe hh.pe, ?_⟩
  intro τ τ' res σ H F Q ee k c
  unfold slE at ee
  obtain ⟨p, h1, ee⟩ := Option.bind_eq_some_iff.mp ee
  obtain ⟨l, h2, ee⟩ := Option.bind_eq_some_iff.mp ee
  obtain ⟨h, h3, ee⟩ := Option.bind_eq_some_iff.mp ee
  obtain ⟨d, h4, ee⟩ := Option.bind_eq_some_iff.mp ee
  obtain ⟨r, h5, ee⟩ := Option.map_eq_some_iff.mp ee
  cases ee
  refine he.s τ p.2 p.1 σ H F _ h1 k fun v H1 F1 k1 s1 l1 => hl.s p.2 l.2 l.1 σ H1 F1 _ h2 k1 fun H2 F2 k2 s2 => hh.s l.2 h.2 h.1 σ H2 F2 _ h3 k2 fun H3 F3 k3 s3 => ?_
  refine s_sl v d l.1 h.1 _ F3 H3 Q h5 k3.sub (l1 _ _ _ _ k3 (s2.trans s3) h4) fun w H' F' g ro => ?_
  have st := s1.trans (s2.trans s3)
  exact c w H' F' (k3.grow g) (st.trans g.step) ((ro.ok k3 g).back st)
theorem e_met {es : List Expr} {ta : TA} {fs : M (List T)} {name : Str} {apos : Pos} {id : String} {r : V → List V → Hp → VK → Prop} {gm : List T → List T → Option (T × List T)} {x : Str} {px : Pos} (j : Nat) (slot : Slot "list" name id) (hty : typeOf (.builtin id) = pure (.type "method_descriptor")) (hm : MtR X id r) (hr : RMS X.K r gm)
    (ha : EAV X (e :: es) ta fs) (hN : X.N[j]? = some x := by rfl) (hv : Vis X.env.scope x := by first | exact Or.inl rfl | exact Or.inr (Or.inl rfl) | exact Or.inr (Or.inr rfl)) (hd : (x == ("__debug__" : Str)) = false := by decide)
    (hcd : (x == ("__classdict__" : Str)) = false := by decide)
    (hbase : attributeBase (.Name x px) name X.env (eval (.Name x px) X.env) = eval (.Name x px) X.env := by rfl)
    (hfew : ((backTo pos (starEach (e :: es) X.env)).all (fun x => !x.1) && (backToKw pos (keywordEach [] X.env)).all (fun x => x.1.isSome)
      && decide ((e :: es).length + ([] : List Keyword).length + (if ([] : List Keyword).isEmpty then 0 else 1) < 30)) = true := by rfl)
    (hline : (apos.endLine == pos.line) = true := by rfl) (hs : starEach (e :: es) X.env = (false, eval e X.env) :: starEach es X.env := by rfl) (hplain : (backTo pos (starEach es X.env)).any (·.1) = false := by rfl) :
    EE X (.Call (.Attribute (.Name x px) name apos) (e :: es) [] pos) (tBM X.K "list" r (tVar j) ta) (metE j gm fs) :=
  ⟨pe_bm PySem.F.plainAttrs_list slot hty hm (pe_var hN hv hd hcd) ha.pe hbase hfew hline hs hplain, s_met hr ha.s⟩
theorem e_met0 {name : Str} {apos : Pos} {id : String} {r : V → List V → Hp → VK → Prop} {gm : List T → List T → Option (T × List T)} {x : Str} {px : Pos} (j : Nat) (slot : Slot "list" name id) (hty : typeOf (.builtin id) = pure (.type "method_descriptor")) (hm : MtR X id r) (hr : RMS X.K r gm)
    (hN : X.N[j]? = some x := by rfl) (hv : Vis X.env.scope x := by first | exact Or.inl rfl | exact Or.inr (Or.inl rfl) | exact Or.inr (Or.inr rfl)) (hd : (x == ("__debug__" : Str)) = false := by decide)
    (hcd : (x == ("__classdict__" : Str)) = false := by decide)
    (hbase : attributeBase (.Name x px) name X.env (eval (.Name x px) X.env) = eval (.Name x px) X.env := by rfl) (hline : (apos.endLine == pos.line) = true := by rfl) :
    EE X (.Call (.Attribute (.Name x px) name apos) [] [] pos) (tBM0 X.K "list" r (tVar j)) (metE j gm nilV) := ⟨pe_bm0 PySem.F.plainAttrs_list slot hty hm (pe_var hN hv hd hcd) hbase hline, s_met0 hr⟩
/-- a def of the text, as callers need it -/
structure Fd (P : Program) (w : World) (K : PySem.W.Frag) (mg : Str → Option Value) (base : Heap) (k : Nat) (x : Str) (n : Nat) (fs : FnS) : Prop where
  ex : ∃ (f : Addr) (fd : FuncData) (ps : List Str), FnOk P w K mg base CX0 k f fd ps (spT K n fs) ∧ mg x = some (.ref f) ∧ PySem.W.keepIn K (.ref f) = true ∧ Binds K fd ps []
def LenC (n : Nat) (fa : M (List Ag)) : Prop := ∀ as τ τ', fa τ = some (as, τ') → as.length = n
theorem lenC_nil : LenC 0 nilC := fun as τ τ' e => by cases e; rfl
theorem lenC_cons {n : Nat} {f : M T} {g : M (List Ag)} (h : LenC n g) : LenC (n + 1) (consC f g) := fun as τ τ' e => by
  unfold consC at e
  obtain ⟨p, h1, e⟩ := Option.bind_eq_some_iff.mp e
  obtain ⟨q, h2, e⟩ := Option.map_eq_some_iff.mp e
  cases e
  exact congrArg Nat.succ (h _ _ _ h2)
theorem lenC_plc {n i : Nat} {g : M (List Ag)} (h : LenC n g) : LenC (n + 1) (plcC i g) := fun as τ τ' e => by
  unfold plcC at e
  obtain ⟨p, h1, e⟩ := Option.bind_eq_some_iff.mp e
  obtain ⟨q, h2, e⟩ := Option.map_eq_some_iff.mp e
  cases e
  exact congrArg Nat.succ (h _ _ _ h2)
theorem e_call {x : Str} {p : Pos} {es : List Expr} {ta : TA} {k n : Nat} {fs : FnS} {fc : M (List Ag)} (F : Fd X.prog X.w X.K X.mg X.base k x n fs) (hr : Room k X.A) (hg : Gl X x) (hl : LenC n fc) (ha : EAC X (e :: es) ta fc)
    (hdb : (x == ("__debug__" : Str)) = false := by decide) (he : starEach (e :: es) X.env = (false, eval e X.env) :: starEach es X.env := by rfl) (hpl : (backTo pos (starEach es X.env)).any (·.1) = false := by rfl) :
    EE X (.Call (.Name x p) (e :: es) [] pos) (tCall (spT X.K n fs) [] E0 ta) (callE fs fc) := by
  obtain ⟨f, fd, ps, ok, hm, hk, hb⟩ := F.ex
  exact ⟨pe_call ok hr hg hm hk hb .nil pass0 ha.pe hdb he hpl, s_call (fun e => hl _ _ _ e) ha.s⟩
end
/-- THE RULE for a def -/
theorem fd_of {P : Program} {w : World} {K : PySem.W.Frag} {mg : Str → Option Value} {base : Heap} {x qual : Str} {params : Arguments} {body : List Stmt} {scope : Scope} {f : Addr} {fd : FuncData} {N ps : List Str} {k n m : Nat} {g : Sls → Option Out}
    (F : FunD K x qual params body scope [] [] f fd) (S : FnScope N ps scope) (hm : mg x = some (.ref f)) (hbd : Binds K fd ps []) (hn : ps.length = n) (hN : N.length = n + m)
    (hb : ∀ (cdv : Value) (A : Around) (outer : List PySem.Env) (s : Shared) (H : Hp) (E : XK), Room k (A.deeper (PyProof.Rows.envOfC qual scope s.heap.objs.size f cdv)) → ∃ ts, EL (cxOf CX0 P w K mg base N qual scope f cdv A outer s H E).nox body ts g) :
    Fd P w K mg base (k + 1) x n (fnS m g) := by
  refine ⟨f, fd, ps, ?_, hm, F.kp, hbd⟩
  refine F.ok S (fun vs H Q E h => by rw [hn]; exact h.1) fun cdv A outer s H vs Q E hr h => ?_
  obtain ⟨ts, el⟩ := hb cdv A outer s H E hr
  exact ⟨ts, el.pe.nox, fn_run hN el.s h⟩
end TR

namespace TR
open PySem L2

theorem hu1 {k : Nat} {A : Around} (r : Room k A) : A.units + 1 < cLine := by have := r.un; omega
theorem hu65 {k : Nat} {A : Around} (r : Room k A) : A.units + 65 < cLine := by have := r.un; omega
section
variable {X : Cx} {a b e : Expr} {te ta : TE} {pos : Pos}
theorem e_one {op} {f : M R} (h : EE X a te f) : EE X (.BoolOp op [a] pos) te f := ⟨pe_one h.pe, h.s⟩

/-! ### xs[::-1] -/
def revG (a : T) : Option R := (a.seqL).map fun ds => ⟨.lst ds.reverse, true⟩
theorem e_rev {fa : M (Sls → Option T)} {k : Nat} {p1 p2 p3 : Pos} (ha : EO X e te fa) : EE X (.Subscript e (.Slice none none (some (.UnaryOp .USub (.Constant (.int 1) k p1) p2)) p3) pos) (tRevL X.K te) (unE revG fa) := by
  refine ⟨pe_revL ha.pe, ?_⟩
  intro τ τ' res σ H F Q e k c
  unfold unE at e
  obtain ⟨p, h1, e⟩ := Option.bind_eq_some_iff.mp e
  obtain ⟨x, h3, e⟩ := Option.bind_eq_some_iff.mp e
  obtain ⟨z, h5, e⟩ := Option.map_eq_some_iff.mp e
  cases e
  unfold revG at h5
  obtain ⟨ds, h6, h5⟩ := Option.map_eq_some_iff.mp h5
  subst h5
  refine ha.s τ p.2 p.1 σ H F _ h1 k fun v H1 F1 k1 s1 l1 => ?_
  obtain ⟨aa, vs, rfl, hs, ra⟩ := (l1 _ _ _ _ k1 .refl h3).seqL k1.sub h6
  refine ⟨aa, vs, rfl, hs, fun q hq => ?_⟩
  exact new_lst k1.sub hq ra.reverse fun v H' F' g ro => c v H' F' (k1.grow g) (s1.trans g.step) ((ro.ok k1 g).back s1)

/-! ### d.get(k, x) -/
def T.isD : T → Bool
  | .dic _ => true
  | .dit _ => true
  | _ => false
def get2E (j : Nat) (fa fb : M T) : M R := fun τ => (slT τ[j]?).bind fun d => if d.isD = true then (fa τ).bind fun p => (fb p.2).bind fun q => (slT q.2[j]?).bind fun c => (askT c p.1).map fun o => (⟨o.getD q.1, false⟩, q.2) else none
theorem e_get2 {f g : Expr} {tf tg : TE} {fa fb : M T} {x : Str} {px apos : Pos} (j : Nat) (hu : X.A.units + 1 < cLine) (ha : EV X f tf fa) (hb : EV X g tg fb) (hN : X.N[j]? = some x := by rfl) (hv : Vis X.env.scope x := by first | exact Or.inl rfl | exact Or.inr (Or.inl rfl) | exact Or.inr (Or.inr rfl)) (hd : (x == ("__debug__" : Str)) = false := by decide)
    (hcd : (x == ("__classdict__" : Str)) = false := by decide)
    (hbase : attributeBase (.Name x px) "get" X.env (eval (.Name x px) X.env) = eval (.Name x px) X.env := by rfl)
    (hfew : ((backTo pos (starEach [f, g] X.env)).all (fun x => !x.1) && (backToKw pos (keywordEach [] X.env)).all (fun x => x.1.isSome)
      && decide (([f, g] : List Expr).length + ([] : List Keyword).length + (if ([] : List Keyword).isEmpty then 0 else 1) < 30)) = true := by rfl)
    (hline : (apos.endLine == pos.line) = true := by rfl) (ht : backTo pos (starEach [f, g] X.env) = [(false, eval f X.env), (false, eval g X.env)] := by rfl) :
    EE X (.Call (.Attribute (.Name x px) "get" apos) [f, g] [] pos) (tDGet2 (tVar j) tf tg) (get2E j fa fb) := by
  refine ⟨pe_dget2 hu (pe_var hN hv hd hcd) ha.pe hb.pe ⟨hbase, hfew, hline, ht⟩, ?_⟩
  intro τ τ' res σ H F Q e k c
  unfold get2E at e
  obtain ⟨d, h0, e⟩ := Option.bind_eq_some_iff.mp e
  split at e
  · rename_i hz
    obtain ⟨p, h1, e⟩ := Option.bind_eq_some_iff.mp e
    obtain ⟨q, h2, e⟩ := Option.bind_eq_some_iff.mp e
    obtain ⟨c', h3, e⟩ := Option.bind_eq_some_iff.mp e
    obtain ⟨o, h4, e⟩ := Option.map_eq_some_iff.mp e
    cases e
    obtain ⟨w, hw, l0⟩ := slT_val k h0
    have hD : ∃ a, w = .ref a ∧ IsD H a := by
      cases d with
      | dic ds =>
        obtain ⟨a, kvs, e1, e2, _⟩ := l0.dic k.sub
        exact ⟨a, e1, .inl ⟨kvs, e2⟩⟩
      | dit ds =>
        obtain ⟨a, kvs, e1, e2, _⟩ := l0.dit k.sub
        exact ⟨a, e1, .inr ⟨kvs, .inl e2⟩⟩
      | _ => cases hz
    obtain ⟨a, ea, isd⟩ := hD
    refine ⟨w, hw, a, ea, isd, ha.s τ p.2 p.1 σ H F _ h1 k fun v1 H1 F1 k1 s1 r1 => hb.s p.2 q.2 q.1 σ H1 F1 _ h2 k1 fun v2 H2 F2 k2 s2 r2 => ?_⟩
    obtain ⟨w', hw', l2⟩ := slT_val k2 h3
    rw [hw] at hw'
    cases hw'
    obtain ⟨p', o', e1, g, g1, g2⟩ := dget_of k2.sub l2 (.inl (r1.mono s2.fr)) h4
    rw [ea] at e1
    cases e1
    refine ⟨o', g, ?_⟩
    have st := s1.trans s2
    cases o with
    | none =>
      rw [g2 rfl]
      exact c v2 H2 F2 k2 st (.inl ⟨rfl, r2⟩)
    | some d' =>
      obtain ⟨v, ev, rv⟩ := g1 d' rfl
      rw [ev]
      exact c v H2 F2 k2 st (.inl ⟨rfl, rv⟩)
  · cases e
end

/-! ### sorted(d), list(range(..)), gcd -/
def intKeys : List (T × T) → Option (List Int)
  | [] => some []
  | (.int i, _) :: r => (intKeys r).map (i :: ·)
  | _ => none
theorem intKeys_rp {K : PySem.W.Frag} {F : Hp} : ∀ {ds : List (T × T)} {ks : List Int} {kvs : List (Key × V)}, intKeys ds = some ks → RpK K F kvs ds → kvs.map (·.1) = ks.map Sum.inl
  | [], ks, kvs, e, a => by
    cases e; cases a; rfl
  | (k, d) :: r, ks, kvs, e, a => by
    cases a with
    | cons h t =>
      rename_i key v vs
      cases key with
      | inr x => unfold intKeys keyT at e; cases e
      | inl i =>
        unfold intKeys keyT at e
        obtain ⟨ms, h1, e⟩ := Option.map_eq_some_iff.mp e
        subst e
        rw [List.map_cons, List.map_cons, intKeys_rp h1 t]
def insI (i : Int) : List Int → List Int
  | [] => [i]
  | j :: r => if i ≤ j then i :: j :: r else j :: insI i r
def sortI : List Int → List Int
  | [] => []
  | i :: r => insI i (sortI r)
theorem insI_perm (i : Int) : ∀ l : List Int, (insI i l).Perm (i :: l)
  | [] => .refl _
  | j :: r => by
    unfold insI
    split
    · exact .refl _
    · exact ((insI_perm i r).cons j).trans (.swap _ _ _)
theorem sortI_perm : ∀ l : List Int, (sortI l).Perm l
  | [] => .refl _
  | i :: r => (insI_perm i _).trans ((sortI_perm r).cons i)
theorem insI_sorted (i : Int) : ∀ l : List Int, l.Pairwise (· ≤ ·) → (insI i l).Pairwise (· ≤ ·)
  | [], _ => by simp [insI]
  | j :: r, h => by
    unfold insI
    have h' := List.pairwise_cons.mp h
    split
    · rename_i hij
      refine List.pairwise_cons.mpr ⟨fun x hx => ?_, h⟩
      rcases List.mem_cons.mp hx with rfl | hx
      · exact hij
      · exact Int.le_trans hij (h'.1 x hx)
    · rename_i hij
      refine List.pairwise_cons.mpr ⟨fun x hx => ?_, insI_sorted i r h'.2⟩
      rcases List.mem_cons.mp ((insI_perm i r).mem_iff.mp hx) with rfl | hx
      · omega
      · exact h'.1 x hx
theorem sortI_sorted : ∀ l : List Int, (sortI l).Pairwise (· ≤ ·)
  | [] => .nil
  | i :: r => insI_sorted i _ (sortI_sorted r)
theorem sortI_uniq {l m : List Int} (hp : l.Perm m) (hs : l.Pairwise (· ≤ ·)) : l = sortI m :=
  (hp.trans (sortI_perm m).symm).eq_of_pairwise (le := (· ≤ ·)) (fun a b _ _ h1 h2 => Int.le_antisymm h1 h2) hs (sortI_sorted m)
def sortedDG (as : List T) : Option R := match as with
  | [.dic ds] => (intKeys ds).bind fun ks => if ks.length < 64 then some ⟨.lst ((sortI ks).map .int), true⟩ else none
  | _ => none
theorem s_sortedD {K : PySem.W.Frag} : RLS K (fun xs H Q => ∃ (a : Addr) (kvs : List (Key × V)) (ks : List Int), xs = [.ref a] ∧ Rd H a (.dK kvs) ∧ kvs.map (·.1) = ks.map Sum.inl ∧ ks.length < 64 ∧
    ∀ (ys : List Int) (p : Addr), ys.Perm ks → ys.Pairwise (· ≤ ·) → H p = none → Q (.ref p) (upd H p (.lst (ys.map V.int)))) sortedDG := by
  intro xs as res F H Q e s l c
  unfold sortedDG at e
  split at e
  · rename_i ds
    obtain ⟨ks, h1, e⟩ := Option.bind_eq_some_iff.mp e
    split at e
    · rename_i hz
      cases e
      obtain ⟨x, rfl, y⟩ := l.one
      obtain ⟨a, kvs, rfl, hd, ra⟩ := y.dic s
      refine ⟨a, kvs, ks, rfl, hd, intKeys_rp h1 ra, hz, fun ys p hp hs hn => ?_⟩
      rw [sortI_uniq hp hs]
      refine new_lst s hn (ds := (sortI ks).map T.int) (RpA.of_map_int _) c
    · cases e
  · cases e
def gcdG (as : List T) : Option R := match as with
  | [.int a, .int b] => some (ri ((Nat.gcd a.natAbs b.natAbs : Nat) : Int))
  | _ => none
theorem s_gcd {K : PySem.W.Frag} : RLS K rGcd gcdG := by
  intro xs as res F H Q e s l c
  unfold gcdG at e
  split at e
  · cases e
    obtain ⟨x, y, rfl, l1, l2⟩ := l.two
    rw [l1.int, l2.int]
    exact ⟨_, _, rfl, here s (.int _) c⟩
  · cases e
structure GcdOk (mg : Str → Option Value) : Prop where
  hm : mg "gcd" = some (.builtin "math.gcd")
section
variable {X : Cx} {e : Expr} {es : List Expr} {ta : TA} {pos p : Pos}
theorem e_gcd {f : M (List (Sls → Option T))} (G : GcdOk X.mg) (hg : Gl X "gcd") (ha : EAO X (e :: es) ta f) (he : starEach (e :: es) X.env = (false, eval e X.env) :: starEach es X.env := by rfl) (hpl : (backTo pos (starEach es X.env)).any (·.1) = false := by rfl) :
    EE X (.Call (.Name "gcd" p) (e :: es) [] pos) (tCB rGcd ta) (calE gcdG f) := ⟨pe_callBfun cr_gcd hg G.hm ha.pe (by decide) he hpl, s_cal s_gcd ha.s⟩
end
end TR

namespace TR
open PySem L2

/-! ### list(range(..)) -/
theorem rgV_rp {K : PySem.W.Frag} {F : Hp} : ∀ (n : Nat) (a : Int), RpA K F ((List.range n).map fun i => V.int (a + (i : Nat))) (rngT a n)
  | 0, _ => .nil
  | n + 1, a => by
    rw [List.range_succ_eq_map, List.map_cons, List.map_map, rngT]
    refine .cons (by rw [show a + ((0 : Nat) : Int) = a by simp]; exact .int _) ?_
    have e : ((fun i : Nat => V.int (a + (i : Nat))) ∘ Nat.succ) = fun i : Nat => V.int (a + 1 + (i : Nat)) := by
      funext i
      show V.int (a + ((i + 1 : Nat) : Int)) = _
      congr 1
      omega
    rw [e]
    exact rgV_rp n (a + 1)
def lrgOf (i j : Int) : Option R := if (rgOk i && rgOk j && decide ((j - i).toNat ≤ 2 ^ 24)) = true then some ⟨.lst (rngT i (j - i).toNat), true⟩ else none
theorem lrg_of {K : PySem.W.Frag} {F H : Hp} {i j : Int} {res : R} {Q : VK} (s : Same F H) (e : lrgOf i j = some res) (c : ∀ v H' F', Grow H F H' F' → RO K F' H' H v res → Q v H') :
    RgOk i j ∧ ∀ q, H q = none → Q (.ref q) (upd H q (.lst (rgV i j))) := by
  unfold lrgOf at e
  split at e
  · rename_i hz
    cases e
    have hz1 := Bool.and_eq_true_iff.mp hz
    have hz2 := Bool.and_eq_true_iff.mp hz1.1
    have hz := And.intro (And.intro (rgOk_spec hz2.1) (rgOk_spec hz2.2)) (of_decide_eq_true hz1.2)
    refine ⟨⟨hz.1.1.1, hz.1.1.2, hz.1.2.1, hz.1.2.2, hz.2⟩, fun q hq => new_lst s hq (rgV_rp _ _) c⟩
  · cases e
def lrgE1 (fa : M (Sls → Option T)) : M R := fun τ => (fa τ).bind fun p => (p.1 p.2).bind fun x => match x with
  | .int j => (lrgOf 0 j).map fun r => (r, p.2)
  | _ => none
def lrgE2 (fa fb : M (Sls → Option T)) : M R := fun τ => (fa τ).bind fun p => (fb p.2).bind fun q => (p.1 q.2).bind fun x => (q.1 q.2).bind fun y => match x with
  | .int i => match y with
    | .int j => (lrgOf i j).map fun r => (r, q.2)
    | _ => none
  | _ => none
section
variable {X : Cx} {a b : Expr} {ta tb : TE} {pos p pos2 : Pos} {fa fb : M (Sls → Option T)}
theorem e_listRg1 (hc : X.calm = true) (hg : Gl X "list") (hm : X.mg "list" = none) (hg2 : Gl X "range") (hm2 : X.mg "range" = none) (ha : EO X a ta fa) (na : starEach [a] X.env = (false, eval a X.env) :: starEach [] X.env := by rfl)
    (na2 : starEach [.Call (.Name "range" p) [a] [] pos2] X.env = (false, eval (.Call (.Name "range" p) [a] [] pos2) X.env) :: starEach [] X.env := by rfl) {p3 : Pos} :
    EE X (.Call (.Name "list" p3) [.Call (.Name "range" p) [a] [] pos2] [] pos) (tLstRg (tRg1 ta)) (lrgE1 fa) := by
  refine ⟨pe_listRg hc hg hm (prg_1 hg2 hm2 ha.pe na) na2, ?_⟩
  intro τ τ' res σ H F Q e k c
  unfold lrgE1 at e
  obtain ⟨q, h1, e⟩ := Option.bind_eq_some_iff.mp e
  obtain ⟨x, h2, e⟩ := Option.bind_eq_some_iff.mp e
  split at e
  · obtain ⟨r, h3, e⟩ := Option.map_eq_some_iff.mp e
    cases e
    refine ha.s τ q.2 q.1 σ H F _ h1 k fun v H1 F1 k1 s1 l1 => ?_
    rw [(l1 _ _ _ _ k1 .refl h2).int]
    exact ⟨_, rfl, lrg_of k1.sub h3 fun v H' F' g ro => c v H' F' (k1.grow g) (s1.trans g.step) ((ro.ok k1 g).back s1)⟩
  · cases e
theorem e_listRg2 (hc : X.calm = true) (hg : Gl X "list") (hm : X.mg "list" = none) (hg2 : Gl X "range") (hm2 : X.mg "range" = none) (ha : EO X a ta fa) (hb : EO X b tb fb) (na : starEach [a, b] X.env = (false, eval a X.env) :: starEach [b] X.env := by rfl) (nb : starEach [b] X.env = (false, eval b X.env) :: starEach [] X.env := by rfl)
    (hp : (backTo pos2 (starEach [b] X.env)).any (·.1) = false := by rfl)
    (na2 : starEach [.Call (.Name "range" p) [a, b] [] pos2] X.env = (false, eval (.Call (.Name "range" p) [a, b] [] pos2) X.env) :: starEach [] X.env := by rfl) {p3 : Pos} :
    EE X (.Call (.Name "list" p3) [.Call (.Name "range" p) [a, b] [] pos2] [] pos) (tLstRg (tRg2 ta tb)) (lrgE2 fa fb) := by
  refine ⟨pe_listRg hc hg hm (prg_2 hg2 hm2 ha.pe hb.pe na nb hp) na2, ?_⟩
  intro τ τ' res σ H F Q e k c
  unfold lrgE2 at e
  obtain ⟨q, h1, e⟩ := Option.bind_eq_some_iff.mp e
  obtain ⟨q2, h2, e⟩ := Option.bind_eq_some_iff.mp e
  obtain ⟨x, h3, e⟩ := Option.bind_eq_some_iff.mp e
  obtain ⟨y, h4, e⟩ := Option.bind_eq_some_iff.mp e
  split at e
  · split at e
    · obtain ⟨r, h5, e⟩ := Option.map_eq_some_iff.mp e
      cases e
      refine ha.s τ q.2 q.1 σ H F _ h1 k fun v H1 F1 k1 s1 l1 => hb.s q.2 q2.2 q2.1 σ H1 F1 _ h2 k1 fun u H2 F2 k2 s2 l2 => ?_
      rw [(l1 _ _ _ _ k2 s2 h3).int, (l2 _ _ _ _ k2 .refl h4).int]
      have st := s1.trans s2
      exact ⟨_, _, rfl, rfl, lrg_of k2.sub h5 fun v H' F' g ro => c v H' F' (k2.grow g) (st.trans g.step) ((ro.ok k2 g).back st)⟩
    · cases e
  · cases e
end

theorem wipe_wipe {σ : L2.St} {vs own : List Nat} (h : ∀ j ∈ vs, j ∈ own) : wipe (wipe σ vs) own = wipe σ own := wipe_eq (wipe_length _ _) h fun j hj => wipe_get hj

/-! ### {k: v for ..} -/
def dcL (g : T → Sls → Option Sls) (cnd : M Bool) (fk fv : M T) (own : List Nat) : List T → List (T × T) → Sls → Option (List (T × T) × Sls)
  | [], acc, τ => some (acc, τ)
  | d :: r, acc, τ => (g d τ).bind fun τ1 => (cnd τ1).bind fun p =>
      if p.1 = true then (fk p.2).bind fun q => (fv q.2).bind fun z => if ((keyOf q.1).isSome && decide (acc.length < sizeLine)) = true then dcL g cnd fk fv own r (putT acc q.1 z.1) (wipeT own z.2) else none
      else dcL g cnd fk fv own r acc (wipeT own p.2)
def dcE (it : M (List T)) (g : T → Sls → Option Sls) (cnd : M Bool) (fk fv : M T) (own : List Nat) : M R := fun τ =>
  (it τ).bind fun p => (dcL g cnd fk fv own p.1 [] (wipeT own p.2)).bind fun q => some (⟨.dic q.1, true⟩, restT own p.2 q.2)
theorem dcL_run {K : PySem.W.Frag} {wi : TI} {t : TG} {L own : List Nat} {tt : TT} {tk tv : TE} {it : M (List T)} {g : T → Sls → Option Sls} {cnd : M Bool} {fk fv : M T} (hi : SI K wi it) (hg : SG K L t g) (ht : SB K tt cnd) (hk : SV K tk fk) (he : SV K tv fv) (hL : ∀ j ∈ L, j ∈ own) :
    SE K (tDc wi t tt tk tv own) (dcE it g cnd fk fv own) := by
  intro τ τ' res σ H F Q e k c
  unfold dcE at e
  obtain ⟨p, h1, e⟩ := Option.bind_eq_some_iff.mp e
  obtain ⟨q, h2, e⟩ := Option.bind_eq_some_iff.mp e
  obtain ⟨ds, τ1⟩ := p
  obtain ⟨ys, τe⟩ := q
  dsimp only at h2 e
  cases e
  refine hi τ τ1 ds σ H F _ h1 k fun J H1 F1 k1 s1 y1 D hD => ?_
  obtain ⟨fD, rD⟩ := k1.fresh hD
  have rD0 : ¬ IsRoot (wipeT own τ1) (wipe σ own) D := fun ⟨j, r⟩ => rD ⟨j, (wipeT_rootAt r).2⟩
  refine ⟨fun i m H' => m = ds.length - i ∧ i ≤ ds.length ∧ ∃ (τ' : Sls) (F' : Hp) (vs : List (Key × V)) (acc : List (T × T)), Ok K F' τ' (wipe σ own) H' ∧ Stp (wipeT own τ1) (wipe σ own) H1 F1 τ' (wipe σ own) H' F' ∧ F' D = none ∧ H' D = some (.dK vs) ∧ ¬ IsRoot τ' (wipe σ own) D ∧
    RpK K F' vs acc ∧ dcL g cnd fk fv own (ds.drop i) acc τ' = some (ys, τe) ∧ Same F1 F',
    ⟨_, rfl, Nat.zero_le _, wipeT own τ1, F1, [], [], (k1.wipe).mut fD rD0, Stp.refl.mut hD, fD, upd_same, rD0, .nil, h2, fun _ _ z => z⟩, ?_⟩
  rintro i m H' ⟨rfl, hle, τ', F', vs, acc, k', s', fD', hD', rD', ra, e', sF⟩
  by_cases hlt : i < ds.length
  · have hd : ds[i]? = some ds[i] := List.getElem?_eq_getElem hlt
    rw [List.drop_eq_getElem_cons hlt, dcL] at e'
    obtain ⟨τ2, h3, e'⟩ := Option.bind_eq_some_iff.mp e'
    obtain ⟨b, h4, e'⟩ := Option.bind_eq_some_iff.mp e'
    obtain ⟨go, yl⟩ := y1.2 i _ H' F' hd sF k'.sub
    refine .inr ⟨go, fun H3 => ∃ (τ' : Sls) (F' : Hp) (vs : List (Key × V)) (acc : List (T × T)), Ok K F' τ' (wipe σ own) H3 ∧ Stp (wipeT own τ1) (wipe σ own) H1 F1 τ' (wipe σ own) H3 F' ∧ F' D = none ∧ H3 D = some (.dK vs) ∧ ¬ IsRoot τ' (wipe σ own) D ∧
      RpK K F' vs acc ∧ dcL g cnd fk fv own (ds.drop (i + 1)) acc τ' = some (ys, τe) ∧ Same F1 F', fun H3 w => ⟨_, by omega, rfl, hlt, w⟩, fun x H2 y => ?_⟩
    obtain ⟨F2, g2, r2⟩ := yl x H2 y
    refine hg _ x τ' τ2 _ H2 F2 _ h3 (k'.grow g2) r2 fun σ4 k4 s4 l4 o4 => ?_
    have ew : wipe σ4 own = wipe σ own := (wipe_eq l4 hL o4).trans (wipe_wipe fun _ h => h)
    refine ⟨ew, ?_⟩
    have st4 : Stp (wipeT own τ1) (wipe σ own) H1 F1 τ2 σ4 H2 F2 := s'.trans (g2.step.trans s4)
    have d4 := (g2.step (τ := τ') (σ := wipe σ own) |>.trans s4).free2 fD' hD' rD'
    refine ht τ2 b.2 b.1 σ4 H2 F2 _ h4 k4 fun H5 F5 k5 s5 => ?_
    have st5 := st4.trans s5
    have d5 := s5.free2 d4.1 d4.2.1 d4.2.2
    by_cases hb : b.1 = true
    · rw [if_pos hb] at e' ⊢
      obtain ⟨z, h5, e'⟩ := Option.bind_eq_some_iff.mp e'
      obtain ⟨w, h6, e'⟩ := Option.bind_eq_some_iff.mp e'
      split at e'
      · rename_i hz
        rw [Bool.and_eq_true, decide_eq_true_eq] at hz
        obtain ⟨kk, hkk⟩ := Option.isSome_iff_exists.mp hz.1
        have ek := keyOf_eq hkk
        refine hk b.2 z.2 z.1 σ4 H5 F5 _ h5 k5 fun y6 H6 F6 k6 s6 r6 => he z.2 w.2 w.1 σ4 H6 F6 _ h6 k6 fun v7 H7 F7 k7 s7 r7 => ?_
        have st7 := st5.trans (s6.trans s7)
        have d7 := (s6.trans s7).free2 d5.1 d5.2.1 d5.2.2
        have rw7 : ¬ IsRoot (wipeT own w.2) (wipe σ4 own) D := fun ⟨j, r⟩ => d7.2.2 ⟨j, (wipeT_rootAt r).2⟩
        have eu : y6 = kV kk := by
          rw [ek] at r6
          cases kk with
          | inl i => cases r6; rfl
          | inr x => cases r6; rfl
        have ra7 := ra.mono (g2.ff.trans (s4.fr.trans (s5.fr.trans (s6.fr.trans s7.fr))))
        refine ⟨vs, kk, eu, d7.2.1, by rw [ra.length]; exact hz.2, wipeT own w.2, F7, putK vs kk v7, putT acc z.1 w.1, ?_, ?_, d7.1, upd_same, by rw [← ew]; exact rw7, ?_, e', sF.trans (g2.ff.trans (s4.fr.trans (s5.fr.trans (s6.fr.trans s7.fr))))⟩
        · rw [← ew]
          exact (k7.wipe).mut d7.1 rw7
        · have := st7.wipe
          rw [ew] at this
          exact this.mut hD
        · rw [ek]
          exact ra7.put r7
      · cases e'
    · rw [if_neg hb] at e' ⊢
      have rw5 : ¬ IsRoot (wipeT own b.2) (wipe σ4 own) D := fun ⟨j, r⟩ => d5.2.2 ⟨j, (wipeT_rootAt r).2⟩
      refine ⟨wipeT own b.2, F5, vs, acc, ?_, ?_, d5.1, d5.2.1, by rw [← ew]; exact rw5, ra.mono (g2.ff.trans (s4.fr.trans s5.fr)), e', sF.trans (g2.ff.trans (s4.fr.trans s5.fr))⟩
      · rw [← ew]
        exact k5.wipe
      · have := st5.wipe
        rw [ew] at this
        exact this
  · have hi : i = ds.length := by omega
    subst hi
    rw [List.drop_length, dcL] at e'
    cases e'
    obtain ⟨k2, s2⟩ := rest_ok k1 k' s'
    have st := s1.trans s2
    refine .inl ⟨y1.1 H' (sF.trans k'.sub), c (.ref D) H' F' k2 st (.inr ⟨rfl, D, rfl, fD', fun z => ?_, .inl (s1.free hD), vs, hD', ra⟩)⟩
    rcases rest_root (by rw [k'.len, wipe_length, k1.len]) z with z | z
    · exact rD z
    · exact rD' z
section
variable {X : Cx} {pos : Pos} {kx vx tg iter : Expr} {ifs : List Expr} {scope : Scope} {own : List (Str × Nat)} {wi : TI} {gt : TG} {tt : TT} {L : List Nat} {it : M (List T)} {gg : T → Sls → Option Sls} {cnd : M Bool} {fk fv : M T} {tk tv : TE}
theorem e_dc (hc : X.calm = true) (hN : X.N.Nodup) (hi : EI X tg iter wi it) (ok : BlkOk X.N X.env.scope scope own)
    (hg : ∀ (s : Shared) (H : Hp) (C : Addr) (cl : List (Str × Addr)) (fp : List Addr), EG (X.blk s H scope (compEnvC scope cl C X.env) fp) tg gt L gg) (ht : ∀ (s : Shared) (H : Hp) (C : Addr) (cl : List (Str × Addr)) (fp : List Addr), ET (X.blk s H scope (compEnvC scope cl C X.env) fp) ifs tt cnd)
    (hk : ∀ (s : Shared) (H : Hp) (C : Addr) (cl : List (Str × Addr)) (fp : List Addr), EV (X.blk s H scope (compEnvC scope cl C X.env) fp) kx tk fk)
    (he : ∀ (s : Shared) (H : Hp) (C : Addr) (cl : List (Str × Addr)) (fp : List Addr), EV (X.blk s H scope (compEnvC scope cl C X.env) fp) vx tv fv) (hL : ∀ j ∈ L, j ∈ own.map (·.2)) (hs : ∀ x, foldedSetIterable iter X.env x = pure x := by intro _; rfl) :
    EE X (.DictComp kx vx [⟨tg, iter, ifs, 0⟩] scope pos) (tDc wi gt tt tk tv (own.map (·.2))) (dcE it gg cnd fk fv (own.map (·.2))) :=
  ⟨pe_dc hc hN hi.pe ok (fun s H C cl fp => (hg s H C cl fp).pe) (fun s H C cl fp => (ht s H C cl fp).pe) (fun s H C cl fp => (hk s H C cl fp).pe) (fun s H C cl fp => (he s H C cl fp).pe) hs,
    dcL_run hi.s (hg X.s_0 X.H_0 0 [] []).s (ht X.s_0 X.H_0 0 [] []).s (hk X.s_0 X.H_0 0 [] []).s (he X.s_0 X.H_0 0 [] []).s hL⟩
end
end TR

namespace TR
open PySem L2

/-! ### [e for .. for ..] -/
theorem Stp.wipe2 {own vs : List Nat} {τ0 τ1 : Sls} {σ0 σ' : L2.St} {H H1 F F1 : Hp} (hv : ∀ j ∈ vs, j ∈ own) (s : Stp (wipeT own τ0) (L2.wipe σ0 own) H F τ1 σ' H1 F1) : Stp (wipeT own τ0) (L2.wipe σ0 own) H F (wipeT vs τ1) (L2.wipe σ' vs) H1 F1 := by
  refine ⟨s.keep, s.dom, s.fr, s.new, fun p ⟨j, r⟩ => s.rt p ⟨j, (wipeT_rootAt r).2⟩, fun i d h => ?_⟩
  obtain ⟨⟨d', e1⟩, e2⟩ := s.ln i d h
  have hi : i ∉ own := fun z => by
    rw [wipeT_get] at h
    obtain ⟨s', e, h⟩ := Option.map_eq_some_iff.mp h
    rw [if_pos (by simpa using z)] at h
    cases h
  have hi : i ∉ vs := fun z => hi (hv i z)
  refine ⟨⟨d', ?_⟩, ?_⟩
  · rw [wipeT_get, e1, Option.map_some, if_neg (by simpa using hi)]
  · rw [wipe_get hi]
    exact e2
theorem inner_run {K : PySem.W.Frag} {t : TG} {L own vs1 : List Nat} {tt : TT} {te : TE} {g : T → Sls → Option Sls} {cnd : M Bool} {elt : M T} (hg : SG K L t g) (ht : SB K tt cnd) (he : SV K te elt) (hL : ∀ j ∈ L, j ∈ vs1) (hv : ∀ j ∈ vs1, j ∈ own)
    {τb τ3 τe : Sls} {σb σ2 : L2.St} {Hb Fb H4 F4 : Hp} {D : Addr} {J : It} {es ws acc0 : List T} {vs0 : List V} {Nx : Hp → Prop} (y1 : Yld K J F4 es) (k : Ok K F4 τ3 σ2 H4) (s : Stp (wipeT own τb) (wipe σb own) Hb Fb τ3 σ2 H4 F4) (hDb : Hb D = none)
    (fD : F4 D = none) (hD : H4 D = some (.lst vs0)) (rD : ¬ IsRoot τ3 σ2 D) (ra0 : RpA K F4 vs0 acc0) (e : lcL g cnd elt vs1 es (wipeT vs1 τ3) = some (ws, τe)) (hz : acc0.length + ws.length ≤ sizeLine)
    (c : ∀ (H' F' : Hp) (vs : List V), Ok K F' τe (wipe σ2 vs1) H' → Stp (wipeT own τb) (wipe σb own) Hb Fb τe (wipe σ2 vs1) H' F' → F' D = none → H' D = some (.lst vs) → ¬ IsRoot τe (wipe σ2 vs1) D → RpA K F' vs (acc0 ++ ws) → Same F4 F' → Nx H') :
    ∃ W1 : Nat → Nat → Hp → Prop, (∃ m, W1 0 m H4) ∧ ∀ j k H, W1 j k H →
      (J.stop j H ∧ Nx H) ∨ (J.go j H ∧ ∃ Nx1 : Hp → Prop, (∀ H', Nx1 H' → ∃ k', k' < k ∧ W1 (j + 1) k' H') ∧ ∀ x H', J.yld j H x H' → t x (wipe σ2 vs1) H' fun σ3 H5 => wipe σ3 vs1 = wipe σ2 vs1 ∧ tt σ3 H5 fun b H6 =>
        if b = true then te σ3 H6 fun y H7 => ∃ acc, H7 D = some (.lst acc) ∧ acc.length < sizeLine ∧ Nx1 (upd H7 D (.lst (acc ++ [y]))) else Nx1 H6) := by
  have rD0 : ¬ IsRoot (wipeT vs1 τ3) (wipe σ2 vs1) D := fun ⟨j, r⟩ => rD ⟨j, (wipeT_rootAt r).2⟩
  refine ⟨fun i m H' => m = es.length - i ∧ i ≤ es.length ∧ ∃ (τ' : Sls) (F' : Hp) (vs : List V) (acc rest : List T), Ok K F' τ' (wipe σ2 vs1) H' ∧ Stp (wipeT own τb) (wipe σb own) Hb Fb τ' (wipe σ2 vs1) H' F' ∧ F' D = none ∧ H' D = some (.lst vs) ∧ ¬ IsRoot τ' (wipe σ2 vs1) D ∧
    RpA K F' vs (acc0 ++ acc) ∧ acc ++ rest = ws ∧ lcL g cnd elt vs1 (es.drop i) τ' = some (rest, τe) ∧ Same F4 F',
    ⟨_, rfl, Nat.zero_le _, wipeT vs1 τ3, F4, vs0, [], ws, k.wipe, s.wipe2 hv, fD, hD, rD0, by rw [List.append_nil]; exact ra0, rfl, e, fun _ _ z => z⟩, ?_⟩
  rintro i m H' ⟨rfl, hle, τ', F', vs, acc, rest, k', s', fD', hD', rD', ra, er, e', sF⟩
  by_cases hlt : i < es.length
  · have hd : es[i]? = some es[i] := List.getElem?_eq_getElem hlt
    rw [List.drop_eq_getElem_cons hlt, lcL] at e'
    obtain ⟨τ2, h3, e'⟩ := Option.bind_eq_some_iff.mp e'
    obtain ⟨b, h4, e'⟩ := Option.bind_eq_some_iff.mp e'
    obtain ⟨go, yl⟩ := y1.2 i _ H' F' hd sF k'.sub
    refine .inr ⟨go, fun H3 => ∃ (τ' : Sls) (F' : Hp) (vs : List V) (acc rest : List T), Ok K F' τ' (wipe σ2 vs1) H3 ∧ Stp (wipeT own τb) (wipe σb own) Hb Fb τ' (wipe σ2 vs1) H3 F' ∧ F' D = none ∧ H3 D = some (.lst vs) ∧ ¬ IsRoot τ' (wipe σ2 vs1) D ∧
      RpA K F' vs (acc0 ++ acc) ∧ acc ++ rest = ws ∧ lcL g cnd elt vs1 (es.drop (i + 1)) τ' = some (rest, τe) ∧ Same F4 F', fun H3 w => ⟨_, by omega, rfl, hlt, w⟩, fun x H2 y => ?_⟩
    obtain ⟨F2, g2, r2⟩ := yl x H2 y
    refine hg _ x τ' τ2 _ H2 F2 _ h3 (k'.grow g2) r2 fun σ4 k4 s4 l4 o4 => ?_
    have ew : wipe σ4 vs1 = wipe σ2 vs1 := (wipe_eq l4 hL o4).trans (wipe_wipe fun _ h => h)
    refine ⟨ew, ?_⟩
    have st4 := s'.trans (g2.step.trans s4)
    have d4 := (g2.step (τ := τ') (σ := wipe σ2 vs1) |>.trans s4).free2 fD' hD' rD'
    refine ht τ2 b.2 b.1 σ4 H2 F2 _ h4 k4 fun H5 F5 k5 s5 => ?_
    have st5 := st4.trans s5
    have d5 := s5.free2 d4.1 d4.2.1 d4.2.2
    by_cases hb : b.1 = true
    · rw [if_pos hb] at e' ⊢
      obtain ⟨z, h5, e'⟩ := Option.bind_eq_some_iff.mp e'
      obtain ⟨w, h6, e'⟩ := Option.map_eq_some_iff.mp e'
      obtain ⟨ws', τw⟩ := w
      cases e'
      refine he b.2 z.2 z.1 σ4 H5 F5 _ h5 k5 fun v H6 F6 k6 s6 r6 => ?_
      have st6 := st5.trans s6
      have d6 := s6.free2 d5.1 d5.2.1 d5.2.2
      have rw6 : ¬ IsRoot (wipeT vs1 z.2) (wipe σ4 vs1) D := fun ⟨j, r⟩ => d6.2.2 ⟨j, (wipeT_rootAt r).2⟩
      have la : (acc0 ++ acc).length < sizeLine := by
        have : acc.length + (ws'.length + 1) = ws.length := by rw [← er]; simp
        rw [List.length_append]
        omega
      refine ⟨vs, d6.2.1, by rw [ra.length]; exact la, wipeT vs1 z.2, F6, vs ++ [v], acc ++ [z.1], ws', ?_, ?_, d6.1, upd_same, by rw [← ew]; exact rw6, ?_, by rw [← er]; simp, h6, sF.trans (g2.ff.trans (s4.fr.trans (s5.fr.trans s6.fr)))⟩
      · rw [← ew]
        exact (k6.wipe).mut d6.1 rw6
      · have := st6.wipe2 hv
        rw [ew] at this
        exact this.mut hDb
      · rw [← List.append_assoc]
        exact (ra.mono (g2.ff.trans (s4.fr.trans (s5.fr.trans s6.fr)))).append (.one r6)
    · rw [if_neg hb] at e' ⊢
      have rw5 : ¬ IsRoot (wipeT vs1 b.2) (wipe σ4 vs1) D := fun ⟨j, r⟩ => d5.2.2 ⟨j, (wipeT_rootAt r).2⟩
      refine ⟨wipeT vs1 b.2, F5, vs, acc, rest, ?_, ?_, d5.1, d5.2.1, by rw [← ew]; exact rw5, ra.mono (g2.ff.trans (s4.fr.trans s5.fr)), er, e', sF.trans (g2.ff.trans (s4.fr.trans s5.fr))⟩
      · rw [← ew]
        exact k5.wipe
      · have := st5.wipe2 hv
        rw [ew] at this
        exact this
  · have hi : i = es.length := by omega
    subst hi
    rw [List.drop_length, lcL] at e'
    cases e'
    rw [List.append_nil] at er
    subst er
    exact .inl ⟨y1.1 H' (sF.trans k'.sub), c H' F' vs k' s' fD' hD' rD' ra sF⟩
def lc2L (g : T → Sls → Option Sls) (cnd : M Bool) (it1 : M (List T)) (g1 : T → Sls → Option Sls) (cnd1 : M Bool) (elt : M T) (own vs1 : List Nat) : List T → Sls → Option (List T × Sls)
  | [], τ => some ([], τ)
  | d :: r, τ => (g d τ).bind fun τ1 => (cnd τ1).bind fun p =>
      if p.1 = true then (it1 p.2).bind fun q => (lcL g1 cnd1 elt vs1 q.1 (wipeT vs1 q.2)).bind fun w => (lc2L g cnd it1 g1 cnd1 elt own vs1 r (wipeT own w.2)).map fun z => (w.1 ++ z.1, z.2)
      else lc2L g cnd it1 g1 cnd1 elt own vs1 r (wipeT own p.2)
def lc2E (it : M (List T)) (g : T → Sls → Option Sls) (cnd : M Bool) (it1 : M (List T)) (g1 : T → Sls → Option Sls) (cnd1 : M Bool) (elt : M T) (own vs1 : List Nat) : M R := fun τ =>
  (it τ).bind fun p => (lc2L g cnd it1 g1 cnd1 elt own vs1 p.1 (wipeT own p.2)).bind fun q => if q.1.length ≤ sizeLine then some (⟨.lst q.1, true⟩, restT own p.2 q.2) else none
theorem lc2_run {K : PySem.W.Frag} {wi wi1 : TI} {t t1 : TG} {L L1 own vs1 : List Nat} {tt tt1 : TT} {te : TE} {it it1 : M (List T)} {g g1 : T → Sls → Option Sls} {cnd cnd1 : M Bool} {elt : M T} (hi : SI K wi it) (hg : SG K L t g) (ht : SB K tt cnd) (hi1 : SI K wi1 it1) (hg1 : SG K L1 t1 g1) (ht1 : SB K tt1 cnd1) (he : SV K te elt) (hL : ∀ j ∈ L, j ∈ own) (hL1 : ∀ j ∈ L1, j ∈ vs1) (hv : ∀ j ∈ vs1, j ∈ own) :
    SE K (tLc2 wi t tt wi1 t1 tt1 te own vs1) (lc2E it g cnd it1 g1 cnd1 elt own vs1) := by
  intro τ τ' res σ H F Q e k c
  unfold lc2E at e
  obtain ⟨p, h1, e⟩ := Option.bind_eq_some_iff.mp e
  obtain ⟨q, h2, e⟩ := Option.bind_eq_some_iff.mp e
  obtain ⟨ds, τ1⟩ := p
  obtain ⟨ys, τe⟩ := q
  dsimp only at h2 e
  split at e
  · rename_i hz
    cases e
    refine hi τ τ1 ds σ H F _ h1 k fun J H1 F1 k1 s1 y1 D hD => ?_
    obtain ⟨fD, rD⟩ := k1.fresh hD
    have rD0 : ¬ IsRoot (wipeT own τ1) (wipe σ own) D := fun ⟨j, r⟩ => rD ⟨j, (wipeT_rootAt r).2⟩
    refine ⟨fun i m H' => m = ds.length - i ∧ i ≤ ds.length ∧ ∃ (τ' : Sls) (F' : Hp) (vs : List V) (acc rest : List T), Ok K F' τ' (wipe σ own) H' ∧ Stp (wipeT own τ1) (wipe σ own) H1 F1 τ' (wipe σ own) H' F' ∧ F' D = none ∧ H' D = some (.lst vs) ∧ ¬ IsRoot τ' (wipe σ own) D ∧
      RpA K F' vs acc ∧ acc ++ rest = ys ∧ lc2L g cnd it1 g1 cnd1 elt own vs1 (ds.drop i) τ' = some (rest, τe) ∧ Same F1 F',
      ⟨_, rfl, Nat.zero_le _, wipeT own τ1, F1, [], [], ys, (k1.wipe).mut fD rD0, Stp.refl.mut hD, fD, upd_same, rD0, .nil, rfl, h2, fun _ _ z => z⟩, ?_⟩
    rintro i m H' ⟨rfl, hle, τ', F', vs, acc, rest, k', s', fD', hD', rD', ra, er, e', sF⟩
    by_cases hlt : i < ds.length
    · have hd : ds[i]? = some ds[i] := List.getElem?_eq_getElem hlt
      rw [List.drop_eq_getElem_cons hlt, lc2L] at e'
      obtain ⟨τ2, h3, e'⟩ := Option.bind_eq_some_iff.mp e'
      obtain ⟨b, h4, e'⟩ := Option.bind_eq_some_iff.mp e'
      obtain ⟨go, yl⟩ := y1.2 i _ H' F' hd sF k'.sub
      refine .inr ⟨go, fun H3 => ∃ (τ' : Sls) (F' : Hp) (vs : List V) (acc rest : List T), Ok K F' τ' (wipe σ own) H3 ∧ Stp (wipeT own τ1) (wipe σ own) H1 F1 τ' (wipe σ own) H3 F' ∧ F' D = none ∧ H3 D = some (.lst vs) ∧ ¬ IsRoot τ' (wipe σ own) D ∧
        RpA K F' vs acc ∧ acc ++ rest = ys ∧ lc2L g cnd it1 g1 cnd1 elt own vs1 (ds.drop (i + 1)) τ' = some (rest, τe) ∧ Same F1 F', fun H3 w => ⟨_, by omega, rfl, hlt, w⟩, fun x H2 y => ?_⟩
      obtain ⟨F2, g2, r2⟩ := yl x H2 y
      refine hg _ x τ' τ2 _ H2 F2 _ h3 (k'.grow g2) r2 fun σ4 k4 s4 l4 o4 => ?_
      have ew : wipe σ4 own = wipe σ own := (wipe_eq l4 hL o4).trans (wipe_wipe fun _ h => h)
      refine ⟨ew, ?_⟩
      have st4 : Stp (wipeT own τ1) (wipe σ own) H1 F1 τ2 σ4 H2 F2 := s'.trans (g2.step.trans s4)
      have d4 := (g2.step (τ := τ') (σ := wipe σ own) |>.trans s4).free2 fD' hD' rD'
      refine ht τ2 b.2 b.1 σ4 H2 F2 _ h4 k4 fun H5 F5 k5 s5 => ?_
      have st5 := st4.trans s5
      have d5 := s5.free2 d4.1 d4.2.1 d4.2.2
      by_cases hb : b.1 = true
      · rw [if_pos hb] at e' ⊢
        obtain ⟨qi, h5, e'⟩ := Option.bind_eq_some_iff.mp e'
        obtain ⟨w, h6, e'⟩ := Option.bind_eq_some_iff.mp e'
        obtain ⟨z, h7, e'⟩ := Option.map_eq_some_iff.mp e'
        obtain ⟨zs, τz⟩ := z
        cases e'
        obtain ⟨es, τ3⟩ := qi
        obtain ⟨ws, τw⟩ := w
        dsimp only at h6 h7 er
        refine hi1 b.2 τ3 es σ4 H5 F5 _ h5 k5 fun J1 H6 F6 k6 s6 y6 => ?_
        have st6 := st5.trans s6
        have d6 := s6.free2 d5.1 d5.2.1 d5.2.2
        have ff6 := g2.ff.trans (s4.fr.trans (s5.fr.trans s6.fr))
        have hsz : acc.length + ws.length ≤ sizeLine := by
          have : acc.length + (ws.length + zs.length) = ys.length := by rw [← er]; simp
          omega
        refine inner_run hg1 ht1 he hL1 hv y6 k6 st6 hD d6.1 d6.2.1 d6.2.2 (ra.mono ff6) h6 hsz fun H7 F7 vs7 k7 s7 f7 hD7 r7 ra7 sF7 => ?_
        have ew7 : wipe (wipe σ4 vs1) own = wipe σ own := (wipe_wipe hv).trans ew
        have rw7 : ¬ IsRoot (wipeT own τw) (wipe (wipe σ4 vs1) own) D := fun ⟨j, r⟩ => r7 ⟨j, (wipeT_rootAt r).2⟩
        rw [ew7] at rw7
        refine ⟨wipeT own τw, F7, vs7, acc ++ ws, zs, ?_, ?_, f7, hD7, rw7, ra7, by rw [← er]; simp, h7, sF.trans (ff6.trans sF7)⟩
        · rw [← ew7]
          exact k7.wipe
        · have := s7.wipe
          rw [ew7] at this
          exact this
      · rw [if_neg hb] at e' ⊢
        have rw5 : ¬ IsRoot (wipeT own b.2) (wipe σ4 own) D := fun ⟨j, r⟩ => d5.2.2 ⟨j, (wipeT_rootAt r).2⟩
        refine ⟨wipeT own b.2, F5, vs, acc, rest, ?_, ?_, d5.1, d5.2.1, by rw [← ew]; exact rw5, ra.mono (g2.ff.trans (s4.fr.trans s5.fr)), er, e', sF.trans (g2.ff.trans (s4.fr.trans s5.fr))⟩
        · rw [← ew]
          exact k5.wipe
        · have := st5.wipe
          rw [ew] at this
          exact this
    · have hi : i = ds.length := by omega
      subst hi
      rw [List.drop_length, lc2L] at e'
      cases e'
      rw [List.append_nil] at er
      subst er
      obtain ⟨k2, s2⟩ := rest_ok k1 k' s'
      have st := s1.trans s2
      refine .inl ⟨y1.1 H' (sF.trans k'.sub), c (.ref D) H' F' k2 st (.inr ⟨rfl, D, rfl, fD', fun z => ?_, .inl (s1.free hD), vs, hD', ra⟩)⟩
      rcases rest_root (by rw [k'.len, wipe_length, k1.len]) z with z | z
      · exact rD z
      · exact rD' z
  · cases e
section
variable {X : Cx} {pos : Pos} {elt tg iter tg1 iter1 : Expr} {ifs ifs1 : List Expr} {scope : Scope} {own : List (Str × Nat)} {wi wi1 : TI} {gt gt1 : TG} {tt tt1 : TT} {L L1 vs1 : List Nat} {it it1 : M (List T)} {gg gg1 : T → Sls → Option Sls} {cnd cnd1 : M Bool} {fe : M T} {te : TE}
theorem e_lc2 (hc : X.calm = true) (hN : X.N.Nodup) (hi : EI X tg iter wi it) (ok : BlkOk X.N X.env.scope scope own) (hv : ∀ i ∈ vs1, i ∈ own.map (·.2))
    (hg : ∀ (s : Shared) (H : Hp) (C : Addr) (cl : List (Str × Addr)) (fp : List Addr), EG (X.blk s H scope (compEnvC scope cl C X.env) fp) tg gt L gg) (ht : ∀ (s : Shared) (H : Hp) (C : Addr) (cl : List (Str × Addr)) (fp : List Addr), ET (X.blk s H scope (compEnvC scope cl C X.env) fp) ifs tt cnd)
    (hi1 : ∀ (s : Shared) (H : Hp) (C : Addr) (cl : List (Str × Addr)) (fp : List Addr), EI (X.blk s H scope (compEnvC scope cl C X.env) fp) tg1 iter1 wi1 it1)
    (hg1 : ∀ (s : Shared) (H : Hp) (C : Addr) (cl : List (Str × Addr)) (fp : List Addr), EG (X.blk s H scope (compEnvC scope cl C X.env) fp) tg1 gt1 L1 gg1) (ht1 : ∀ (s : Shared) (H : Hp) (C : Addr) (cl : List (Str × Addr)) (fp : List Addr), ET (X.blk s H scope (compEnvC scope cl C X.env) fp) ifs1 tt1 cnd1)
    (he : ∀ (s : Shared) (H : Hp) (C : Addr) (cl : List (Str × Addr)) (fp : List Addr), EV (X.blk s H scope (compEnvC scope cl C X.env) fp) elt te fe) (hL : ∀ j ∈ L, j ∈ own.map (·.2)) (hL1 : ∀ j ∈ L1, j ∈ vs1)
    (hs : ∀ x, foldedSetIterable iter X.env x = pure x := by intro _; rfl) (hs1 : ∀ env x, foldedSetIterable iter1 env x = pure x := by intro _ _; rfl) :
    EE X (.ListComp elt [⟨tg, iter, ifs, 0⟩, ⟨tg1, iter1, ifs1, 0⟩] scope pos) (tLc2 wi gt tt wi1 gt1 tt1 te (own.map (·.2)) vs1) (lc2E it gg cnd it1 gg1 cnd1 fe (own.map (·.2)) vs1) :=
  ⟨pe_lc2 hc hN hi.pe ok hv (fun s H C cl fp => (hg s H C cl fp).pe) (fun s H C cl fp => (ht s H C cl fp).pe) (fun s H C cl fp => (hi1 s H C cl fp).pe) (fun s H C cl fp => (hg1 s H C cl fp).pe) (fun s H C cl fp => (ht1 s H C cl fp).pe) (fun s H C cl fp => (he s H C cl fp).pe) hs hs1,
    lc2_run hi.s (hg X.s_0 X.H_0 0 [] []).s (ht X.s_0 X.H_0 0 [] []).s (hi1 X.s_0 X.H_0 0 [] []).s (hg1 X.s_0 X.H_0 0 [] []).s (ht1 X.s_0 X.H_0 0 [] []).s (he X.s_0 X.H_0 0 [] []).s hL hL1 hv⟩
theorem st_lc2 {i : Nat} {y : Str} {py spos : Pos} (hc : X.calm = true) (hN : X.N.Nodup) (hy : X.N[i]? = some y) (hyl : X.env.scope.names.lookup y = some .local)
    (hsw : swapsWith (.ListComp elt [⟨tg, iter, ifs, 0⟩, ⟨tg1, iter1, ifs1, 0⟩] scope pos) (some (.Name y py)) spos.line X.env = pure true) (hi : EI X tg iter wi it) (ok : BlkOk X.N X.env.scope scope own) (hv : ∀ i ∈ vs1, i ∈ own.map (·.2))
    (hg : ∀ (s : Shared) (H : Hp) (C : Addr) (cl : List (Str × Addr)) (fp : List Addr), EG (X.blk s H scope (compEnvC scope cl C X.env) fp) tg gt L gg) (ht : ∀ (s : Shared) (H : Hp) (C : Addr) (cl : List (Str × Addr)) (fp : List Addr), ET (X.blk s H scope (compEnvC scope cl C X.env) fp) ifs tt cnd)
    (hi1 : ∀ (s : Shared) (H : Hp) (C : Addr) (cl : List (Str × Addr)) (fp : List Addr), EI (X.blk s H scope (compEnvC scope cl C X.env) fp) tg1 iter1 wi1 it1)
    (hg1 : ∀ (s : Shared) (H : Hp) (C : Addr) (cl : List (Str × Addr)) (fp : List Addr), EG (X.blk s H scope (compEnvC scope cl C X.env) fp) tg1 gt1 L1 gg1) (ht1 : ∀ (s : Shared) (H : Hp) (C : Addr) (cl : List (Str × Addr)) (fp : List Addr), ET (X.blk s H scope (compEnvC scope cl C X.env) fp) ifs1 tt1 cnd1)
    (he : ∀ (s : Shared) (H : Hp) (C : Addr) (cl : List (Str × Addr)) (fp : List Addr), EV (X.blk s H scope (compEnvC scope cl C X.env) fp) elt te fe) (hL : ∀ j ∈ L, j ∈ own.map (·.2)) (hL1 : ∀ j ∈ L1, j ∈ vs1)
    (hs : ∀ x, foldedSetIterable iter X.env x = pure x := by intro _; rfl) (hs1 : ∀ env x, foldedSetIterable iter1 env x = pure x := by intro _ _; rfl) :
    ES X (.Assign [.Name y py] (.ListComp elt [⟨tg, iter, ifs, 0⟩, ⟨tg1, iter1, ifs1, 0⟩] scope pos) spos) (tAsg (tLc2 wi gt tt wi1 gt1 tt1 te (own.map (·.2)) vs1) (gName i)) (asgS i (lc2E it gg cnd it1 gg1 cnd1 fe (own.map (·.2)) vs1)) :=
  ⟨ps_setLc2 hc hN hy hyl hsw hi.pe ok hv (fun s H C cl fp => (hg s H C cl fp).pe) (fun s H C cl fp => (ht s H C cl fp).pe) (fun s H C cl fp => (hi1 s H C cl fp).pe) (fun s H C cl fp => (hg1 s H C cl fp).pe) (fun s H C cl fp => (ht1 s H C cl fp).pe) (fun s H C cl fp => (he s H C cl fp).pe) hs hs1,
    s_asg (lc2_run hi.s (hg X.s_0 X.H_0 0 [] []).s (ht X.s_0 X.H_0 0 [] []).s (hi1 X.s_0 X.H_0 0 [] []).s (hg1 X.s_0 X.H_0 0 [] []).s (ht1 X.s_0 X.H_0 0 [] []).s (he X.s_0 X.H_0 0 [] []).s hL hL1 hv)⟩
end
end TR

namespace TR
open PySem L2

/-! ### a dict under lock -/
def Swp (u u' : HO) : Prop := ∃ od kvs, (u = .dK kvs ∧ u' = .frz od (.dK kvs)) ∨ (u = .frz od (.dK kvs) ∧ u' = .dK kvs)
section
variable {K : PySem.W.Frag} {F H : Hp} {d : Addr} {u u' : HO}
theorem Swp.other (w : Swp u u') {G : Hp} (hF : G d = some u) {a : Addr} {o : HO} (h : G a = some o) (n : ∀ kvs, o ≠ .dK kvs ∧ ∀ od, o ≠ .frz od (.dK kvs)) : upd G d u' a = some o := by
  have : a ≠ d := fun z => by
    subst z
    rw [hF] at h
    cases h
    obtain ⟨od, kvs, ⟨e, _⟩ | ⟨e, _⟩⟩ := w
    · exact (n kvs).1 e
    · exact (n kvs).2 od e
  rw [upd_ne this]
  exact h
theorem Swp.rd (w : Swp u u') (hF : F d = some u) {a : Addr} {kvs : List (Key × V)} (h : Rd F a (.dK kvs)) : Rd (upd F d u') a (.dK kvs) := by
  by_cases q : a = d
  · subst q
    obtain ⟨od, kvs', ⟨e, e'⟩ | ⟨e, e'⟩⟩ := w
    · subst e e'
      rcases h with h | ⟨o, h⟩
      · rw [hF] at h; cases h; exact .inr ⟨od, upd_same⟩
      · rw [hF] at h; cases h
    · subst e e'
      rcases h with h | ⟨o, h⟩
      · rw [hF] at h; cases h
      · rw [hF] at h; cases h; exact .inl upd_same
  · rcases h with h | ⟨o, h⟩
    · exact .inl (by rw [upd_ne q]; exact h)
    · exact .inr ⟨o, by rw [upd_ne q]; exact h⟩
mutual
theorem Rp.swp (w : Swp u u') (hF : F d = some u) : ∀ {v : V} {x : T}, Rp K F v x → Rp K (upd F d u') v x
  | _, _, .non => .non
  | _, _, .bl b => .bl b
  | _, _, .int i => .int i
  | _, _, .str x => .str x
  | _, _, .lst h a => .lst (w.other hF h (fun _ => ⟨nofun, fun _ => nofun⟩)) (RpA.swp w hF a)
  | _, _, .tup h a => .tup (w.other hF h (fun _ => ⟨nofun, fun _ => nofun⟩)) (RpA.swp w hF a)
  | _, _, .frl h a => .frl (by
      rcases h with (h | ⟨o, h⟩) | h
      · exact .inl (.inl (w.other hF h (fun _ => ⟨nofun, fun _ => nofun⟩)))
      · exact .inl (.inr ⟨o, w.other hF h (fun _ => ⟨nofun, fun _ => nofun⟩)⟩)
      · exact .inr h) (RpA.swp w hF a)
  | _, _, .dic h a => .dic (w.rd hF h) (RpK.swp w hF a)
  | _, _, .dit h a => .dit (w.other hF h (fun _ => ⟨nofun, fun _ => nofun⟩)) (RpT.swp w hF a)
theorem RpA.swp (w : Swp u u') (hF : F d = some u) : ∀ {v : List V} {x : List T}, RpA K F v x → RpA K (upd F d u') v x
  | _, _, .nil => .nil
  | _, _, .cons a b => .cons (Rp.swp w hF a) (RpA.swp w hF b)
theorem RpK.swp (w : Swp u u') (hF : F d = some u) : ∀ {v : List (Key × V)} {x : List (T × T)}, RpK K F v x → RpK K (upd F d u') v x
  | _, _, .nil => .nil
  | _, _, .cons a b => .cons (Rp.swp w hF a) (RpK.swp w hF b)
theorem RpT.swp (w : Swp u u') (hF : F d = some u) : ∀ {v : List (List Key × V)} {x : List (T × T)}, RpT K F v x → RpT K (upd F d u') v x
  | _, _, .nil => .nil
  | _, _, .cons a b => .cons (Rp.swp w hF a) (RpT.swp w hF b)
end
theorem Own.swp (w : Swp u u') (hF : F d = some u) {p : Addr} (hp : F p = none) : ∀ {x : T}, Own K F H p x → Own K (upd F d u') (upd H d u') p x := by
  have ne : p ≠ d := fun z => by rw [z, hF] at hp; cases hp
  intro x h
  cases x with
  | lst ds => obtain ⟨vs, a, b⟩ := h; exact ⟨vs, by rw [upd_ne ne]; exact a, b.swp w hF⟩
  | dic ds => obtain ⟨vs, a, b⟩ := h; exact ⟨vs, by rw [upd_ne ne]; exact a, b.swp w hF⟩
  | dit ds => obtain ⟨vs, a, b⟩ := h; exact ⟨vs, by rw [upd_ne ne]; exact a, b.swp w hF⟩
  | _ => exact h.elim
theorem upd_none {G : Hp} {p : Addr} (hF : G d = some u) (hp : G p = none) : upd G d u' p = none := by
  have ne : p ≠ d := fun z => by rw [z, hF] at hp; cases hp
  rw [upd_ne ne]
  exact hp
theorem upd_none2 {G : Hp} {p : Addr} (hp : upd G d u' p = none) : G p = none := by
  by_cases q : p = d
  · subst q; rw [upd_same] at hp; cases hp
  · rw [upd_ne q] at hp; exact hp
theorem Ok.swp {τ : Sls} {σ : L2.St} (k : Ok K F τ σ H) (w : Swp u u') (hF : F d = some u) : Ok K (upd F d u') τ σ (upd H d u') := by
  refine ⟨fun b o e => ?_, k.len, fun i s x h1 h2 => ?_, k.ne⟩
  · by_cases q : b = d
    · subst q; rw [upd_same] at e ⊢; exact e
    · rw [upd_ne q] at e ⊢; exact k.sub b o e
  · have q := k.sl i s x h1 h2
    cases s with
    | no => trivial
    | fr t =>
      obtain ⟨v, e, r⟩ := q
      exact ⟨v, e, r.swp w hF⟩
    | ow t =>
      obtain ⟨p, e, a, b⟩ := q
      exact ⟨p, e, upd_none hF a, b.swp w hF a⟩
    | ln t =>
      obtain ⟨p, e, a, b⟩ := q
      exact ⟨p, e, upd_none hF a, b.swp w hF a⟩
theorem Stp.lock {τ τ' : Sls} {σ σ' : L2.St} {H' F' : Hp} (s : Stp τ σ (upd H d u') (upd F d u') τ' σ' H' F') (hF : F d = some u) (hH : H d = some u) : Stp τ σ H F τ' σ' (upd H' d u) (upd F' d u) := by
  refine ⟨fun b o h n => ?_, fun b o h => ?_, fun b o h => ?_, fun b o h => ?_, fun p h => (s.rt p h).imp id upd_none2, s.ln⟩
  · by_cases q : b = d
    · subst q; rw [hH] at h; cases h; exact upd_same
    · rw [upd_ne q]; exact s.keep b o (by rw [upd_ne q]; exact h) n
  · by_cases q : b = d
    · subst q; exact ⟨u, upd_same⟩
    · rw [upd_ne q]; exact s.dom b o (by rw [upd_ne q]; exact h)
  · by_cases q : b = d
    · subst q; rw [hF] at h; cases h; exact upd_same
    · rw [upd_ne q]; exact s.fr b o (by rw [upd_ne q]; exact h)
  · by_cases q : b = d
    · subst q; rw [upd_same] at h; cases h; exact .inl hF
    · rw [upd_ne q] at h
      rcases s.new b o h with e | e | e
      · rw [upd_ne q] at e; exact .inl e
      · rw [upd_ne q] at e; exact .inr (.inl e)
      · exact .inr (.inr e)
theorem ROk.lock {τ τ' : Sls} {σ σ' : L2.St} {H' F' : Hp} {v : V} {r : R} (h : ROk K F' H' τ' σ' τ σ (upd H d u') v r) (w : Swp u' u) (hF' : F' d = some u') : ROk K (upd F' d u) (upd H' d u) τ' σ' τ σ H v r := by
  rcases h with ⟨e, q⟩ | ⟨e, p, q1, q2, q3, q4, q5⟩
  · exact .inl ⟨e, q.swp w hF'⟩
  · exact .inr ⟨e, p, q1, upd_none hF' q2, q3, q4.imp upd_none2 id, q5.swp w hF' q2⟩
end
theorem vrd_ok {K : PySem.W.Frag} {F H : Hp} {τ τ' : Sls} {σ : L2.St} {j : Nat} {x : T} (e : vrd j τ = some (x, τ')) (k : Ok K F τ σ H) : ∃ v F', σ[j]? = some (some v) ∧ Ok K F' τ' σ H ∧ Stp τ σ H F τ' σ H F' ∧ Rp K F' v x ∧ τ'[j]? = some (.fr x) := by
  unfold vrd at e
  split at e
  · rename_i d h
    cases e
    have hl : j < σ.length := by rw [← k.len]; exact (List.getElem?_eq_some_iff.mp h).1
    have hx : σ[j]? = some σ[j] := List.getElem?_eq_getElem hl
    obtain ⟨v, e, r⟩ := k.sl j _ _ h hx
    rw [e] at hx
    exact ⟨v, F, hx, k, .refl, r, h⟩
  · rename_i d h
    cases e
    obtain ⟨p, F', h1, h2, h3, h4⟩ := k.freeze h
    exact ⟨_, F', h1, h2, h3, h4, List.getElem?_set_self (List.getElem?_eq_some_iff.mp h).1⟩
  · cases e

/-! ### the keys of a dict under lock -/
def keyI (j : Nat) : M (List T) := fun τ => match τ[j]? with
  | some (.fr (.dic ds)) => some (ds.map (·.1), τ)
  | _ => none
def wiF (K : PySem.W.Frag) (it : M (List T)) : TI := fun σ H R => ∃ τ τ' ds F, it τ = some (ds, τ') ∧ Ok K F τ σ H ∧ ∀ J H' F', Ok K F' τ' σ H' → Stp τ σ H F τ' σ H' F' → Yld K J F' ds → R J H'
theorem s_wiF {K : PySem.W.Frag} {it : M (List T)} : SI K (wiF K it) it := fun τ τ' ds σ H F R e k c => ⟨τ, τ', ds, F, e, k, c⟩
theorem RpK.key {K : PySem.W.Frag} {F : Hp} : ∀ {kvs : List (Key × V)} {ds : List (T × T)} {i : Nat} {k : Key} {v : V} {x : T}, RpK K F kvs ds → kvs[i]? = some (k, v) → (ds.map (·.1))[i]? = some x → x = keyT k
  | _, _, i, _, _, _, .nil, h, _ => by simp at h
  | _, _, 0, k, v, x, .cons _ _, h, h2 => by
    simp at h h2
    rw [← h2, h.1]
  | _, _, i + 1, k, v, x, .cons _ b, h, h2 => RpK.key (i := i) b (by simpa using h) (by simpa using h2)
theorem keysAt {K : PySem.W.Frag} {j : Nat} {σ : L2.St} {H : Hp} {R : It → Hp → Prop} {d : Addr} {od : Obj} {kvs : List (Key × V)} (hH : H d = some (.frz od (.dK kvs))) (hσ : σ[j]? = some (some (.ref d))) (h : wiF K (keyI j) σ H R) : iKeys (tVar j) σ H R := by
  obtain ⟨τ, τ', ds, F, e, k, c⟩ := h
  unfold keyI at e
  split at e
  · rename_i es hj
    cases e
    obtain ⟨v, e, r⟩ := k.sl j _ _ hj hσ
    cases e
    cases r with
    | dic hd ra =>
      rename_i kvs'
      have hF : F d = some (.frz od (.dK kvs)) ∧ kvs' = kvs := by
        rcases hd with hd | ⟨o, hd⟩
        · have := k.sub _ _ hd
          rw [hH] at this
          cases this
        · have := k.sub _ _ hd
          rw [hH] at this
          cases this
          exact ⟨hd, rfl⟩
      obtain ⟨hF, rfl⟩ := hF
      refine ⟨.ref d, hσ, d, od, rfl, .inl ⟨kvs', hH, c (Itk d od kvs') H F k .refl ⟨fun H2 s2 => ⟨s2 _ _ hF, by rw [List.length_map, ra.length]; exact Nat.le_refl _⟩, fun i x H2 F2 hi s2 s3 => ⟨⟨s3 _ _ (s2 _ _ hF), ?_⟩, fun y H3 hy => ?_⟩⟩⟩⟩
      · have := (List.getElem?_eq_some_iff.mp hi).1
        rw [List.length_map] at this
        rw [ra.length]
        exact this
      · obtain ⟨rfl, kk, v, h1, h2⟩ := hy
        have := ra.key h1 hi
        subst this h2
        refine ⟨F2, .refl s3, ?_⟩
        cases kk with
        | inl n => exact .int _
        | inr n => exact .str _
  · cases e
def lockS (j : Nat) (f : Sls → Option Out) : Sls → Option Out := fun τ => (vrd j τ).bind fun p => match p.1 with
  | .dic _ => f p.2
  | _ => none
def lockE (j : Nat) (f : M R) : M R := fun τ => (vrd j τ).bind fun p => match p.1 with
  | .dic _ => f p.2
  | _ => none
def tOrLock (t : TS) : TS := fun D σ H => t D σ H ∨ tLock t D σ H
def tOrLockE (t : TE) : TE := fun σ H Q => t σ H Q ∨ tLockE t σ H Q
theorem ps_orLock {X : Cx} {st : Stmt} {t : TS} (h : PS X st t) : PS X st (tOrLock t) := ⟨fun pins s σ H D I hw => hw.elim (h.run pins s σ H D I) ((ps_lock h).run pins s σ H D I)⟩
theorem pe_orLock {X : Cx} {e : Expr} {t : TE} (h : PE X e t) : PE X e (tOrLockE t) := ⟨fun pins s σ H Q I hw => hw.elim (h.run pins s σ H Q I) ((pe_lock h).run pins s σ H Q I)⟩
theorem s_lockS {K : PySem.W.Frag} {j : Nat} {t tF : TS} {f : Sls → Option Out} (hs : SS K tF f) (mono : ∀ D σ H d od kvs, H d = some (.frz od (.dK kvs)) → σ[j]? = some (some (.ref d)) → tF D σ H → t D σ H) : SS K (tOrLock t) (lockS j f) := by
  intro τ out σ H F D e k c
  unfold lockS at e
  obtain ⟨p, h1, e⟩ := Option.bind_eq_some_iff.mp e
  obtain ⟨x, τ1⟩ := p
  obtain ⟨v, F0, hσ, k0, s0, r0, hj⟩ := vrd_ok h1 k
  dsimp only at e
  split at e
  · cases r0 with
    | dic hd ra =>
      rename_i a kvs
      rcases hd with hd | ⟨o, hd⟩
      · have hH := k0.sub _ _ hd
        refine .inr ⟨a, .dK kvs, hH, trivial, fun od => ?_⟩
        have w : Swp (.dK kvs) (.frz od (.dK kvs)) := ⟨od, kvs, .inl ⟨rfl, rfl⟩⟩
        have w' : Swp (.frz od (.dK kvs)) (.dK kvs) := ⟨od, kvs, .inr ⟨rfl, rfl⟩⟩
        refine mono _ σ _ a od kvs upd_same hσ (hs τ1 out σ _ _ _ e (k0.swp w hd) ?_)
        cases out with
        | nx τ2 =>
          intro σ' H' F' k' s'
          have hF' := s'.fr _ _ upd_same
          exact ⟨k'.sub _ _ hF', c σ' _ _ (k'.swp w' hF') (s0.trans (s'.lock hd hH))⟩
        | bk τ2 =>
          intro σ' H' F' k' s'
          have hF' := s'.fr _ _ upd_same
          exact ⟨k'.sub _ _ hF', c σ' _ _ (k'.swp w' hF') (s0.trans (s'.lock hd hH))⟩
        | ct τ2 =>
          intro σ' H' F' k' s'
          have hF' := s'.fr _ _ upd_same
          exact ⟨k'.sub _ _ hF', c σ' _ _ (k'.swp w' hF') (s0.trans (s'.lock hd hH))⟩
        | rt r τ2 =>
          intro v σ' H' F' k' s' q
          have hF' := s'.fr _ _ upd_same
          exact ⟨k'.sub _ _ hF', c v σ' _ _ (k'.swp w' hF') (s0.trans (s'.lock hd hH)) ((q.lock w' hF').back s0)⟩
      · refine .inl (mono _ σ _ a o kvs (k0.sub _ _ hd) hσ (hs τ1 out σ _ _ _ e k0 ?_))
        cases out with
        | nx τ2 => exact fun σ' H' F' k' s' => c σ' _ _ k' (s0.trans s')
        | bk τ2 => exact fun σ' H' F' k' s' => c σ' _ _ k' (s0.trans s')
        | ct τ2 => exact fun σ' H' F' k' s' => c σ' _ _ k' (s0.trans s')
        | rt r τ2 => exact fun v σ' H' F' k' s' q => c v σ' _ _ k' (s0.trans s') (q.back s0)
  · cases e
theorem s_lockE {K : PySem.W.Frag} {j : Nat} {t tF : TE} {f : M R} (hs : SE K tF f) (mono : ∀ Q σ H d od kvs, H d = some (.frz od (.dK kvs)) → σ[j]? = some (some (.ref d)) → tF σ H Q → t σ H Q) : SE K (tOrLockE t) (lockE j f) := by
  intro τ τ' res σ H F Q e k c
  unfold lockE at e
  obtain ⟨p, h1, e⟩ := Option.bind_eq_some_iff.mp e
  obtain ⟨x, τ1⟩ := p
  obtain ⟨v, F0, hσ, k0, s0, r0, hj⟩ := vrd_ok h1 k
  dsimp only at e
  split at e
  · cases r0 with
    | dic hd ra =>
      rename_i a kvs
      rcases hd with hd | ⟨o, hd⟩
      · have hH := k0.sub _ _ hd
        refine .inr ⟨a, .dK kvs, hH, trivial, fun od => ?_⟩
        have w : Swp (.dK kvs) (.frz od (.dK kvs)) := ⟨od, kvs, .inl ⟨rfl, rfl⟩⟩
        have w' : Swp (.frz od (.dK kvs)) (.dK kvs) := ⟨od, kvs, .inr ⟨rfl, rfl⟩⟩
        refine mono _ σ _ a od kvs upd_same hσ (hs τ1 τ' res σ _ _ _ e (k0.swp w hd) fun v H' F' k' s' q => ?_)
        have hF' := s'.fr _ _ upd_same
        exact ⟨k'.sub _ _ hF', c v _ _ (k'.swp w' hF') (s0.trans (s'.lock hd hH)) ((q.lock w' hF').back s0)⟩
      · exact .inl (mono _ σ _ a o kvs (k0.sub _ _ hd) hσ (hs τ1 τ' res σ _ _ _ e k0 fun v H' F' k' s' q => c v _ _ k' (s0.trans s') (q.back s0)))
  · cases e
def forD (j : Nat) (g : T → Sls → Option Sls) (body : Sls → Option Out) : Sls → Option Out := lockS j (forS (keyI j) g body)
def lcD (j : Nat) (g : T → Sls → Option Sls) (cnd : M Bool) (elt : M T) (own : List Nat) : M R := lockE j (lcE (keyI j) g cnd elt own)
section
variable {X : Cx} {pos : Pos} {elt tg : Expr} {ifs : List Expr} {scope : Scope} {own : List (Str × Nat)} {gt : TG} {tt : TT} {L : List Nat} {gg : T → Sls → Option Sls} {cnd : M Bool} {fe : M T} {te : TE} {x : Str} {px : Pos}
theorem st_forD {body : List Stmt} {t : TS} {f : Sls → Option Out} (j : Nat) (hp : PassesOwn (model X.prog X.w) X.A X.env X.xe) (hc : X.calm = true) (hg : EG X tg gt L gg) (hb : EL X body t f) (hN : X.N[j]? = some x := by rfl) (hv : Vis X.env.scope x := by first | exact Or.inl rfl | exact Or.inr (Or.inl rfl) | exact Or.inr (Or.inr rfl))
    (hd : (x == ("__debug__" : Str)) = false := by decide) (hcd : (x == ("__classdict__" : Str)) = false := by decide) (hs : ∀ y, foldedSetIterable (.Name x px) X.env y = pure y := by intro _; rfl) :
    ES X (.For tg (.Name x px) body [] pos) (tOrLock (tFor (iKeys (tVar j)) gt t)) (forD j gg f) :=
  ⟨ps_orLock (ps_for hp hc (pi_keys (pe_var hN hv hd hcd)) hg.pe hb.pe hs), s_lockS (s_for s_wiF hg.s hb.s) fun D σ H d od kvs h1 h2 h => keysAt h1 h2 h⟩
theorem e_lcD (j : Nat) (hc : X.calm = true) (hN : X.N.Nodup) (ok : BlkOk X.N X.env.scope scope own)
    (hg : ∀ (s : Shared) (H : Hp) (C : Addr) (cl : List (Str × Addr)) (fp : List Addr), EG (X.blk s H scope (compEnvC scope cl C X.env) fp) tg gt L gg) (ht : ∀ (s : Shared) (H : Hp) (C : Addr) (cl : List (Str × Addr)) (fp : List Addr), ET (X.blk s H scope (compEnvC scope cl C X.env) fp) ifs tt cnd)
    (he : ∀ (s : Shared) (H : Hp) (C : Addr) (cl : List (Str × Addr)) (fp : List Addr), EV (X.blk s H scope (compEnvC scope cl C X.env) fp) elt te fe) (hL : ∀ j ∈ L, j ∈ own.map (·.2)) (hj : X.N[j]? = some x := by rfl) (hv : Vis X.env.scope x := by first | exact Or.inl rfl | exact Or.inr (Or.inl rfl) | exact Or.inr (Or.inr rfl))
    (hd : (x == ("__debug__" : Str)) = false := by decide) (hcd : (x == ("__classdict__" : Str)) = false := by decide) (hs : ∀ y, foldedSetIterable (.Name x px) X.env y = pure y := by intro _; rfl) :
    EE X (.ListComp elt [⟨tg, .Name x px, ifs, 0⟩] scope pos) (tOrLockE (tLc (iKeys (tVar j)) gt tt te (own.map (·.2)))) (lcD j gg cnd fe (own.map (·.2))) :=
  ⟨pe_orLock (pe_lc hc hN (pi_keys (pe_var hj hv hd hcd)) ok (fun s H C cl fp => (hg s H C cl fp).pe) (fun s H C cl fp => (ht s H C cl fp).pe) (fun s H C cl fp => (he s H C cl fp).pe) hs),
    s_lockE (lcL_run s_wiF (hg X.s_0 X.H_0 0 [] []).s (ht X.s_0 X.H_0 0 [] []).s (he X.s_0 X.H_0 0 [] []).s hL) fun Q σ H d od kvs h1 h2 h => keysAt h1 h2 h⟩
theorem st_lcD {i : Nat} {y : Str} {py spos : Pos} (j : Nat) (hc : X.calm = true) (hN : X.N.Nodup) (hy : X.N[i]? = some y) (hyl : X.env.scope.names.lookup y = some .local)
    (hsw : swapsWith (.ListComp elt [⟨tg, .Name x px, ifs, 0⟩] scope pos) (some (.Name y py)) spos.line X.env = pure true) (ok : BlkOk X.N X.env.scope scope own)
    (hg : ∀ (s : Shared) (H : Hp) (C : Addr) (cl : List (Str × Addr)) (fp : List Addr), EG (X.blk s H scope (compEnvC scope cl C X.env) fp) tg gt L gg) (ht : ∀ (s : Shared) (H : Hp) (C : Addr) (cl : List (Str × Addr)) (fp : List Addr), ET (X.blk s H scope (compEnvC scope cl C X.env) fp) ifs tt cnd)
    (he : ∀ (s : Shared) (H : Hp) (C : Addr) (cl : List (Str × Addr)) (fp : List Addr), EV (X.blk s H scope (compEnvC scope cl C X.env) fp) elt te fe) (hL : ∀ j ∈ L, j ∈ own.map (·.2)) (hj : X.N[j]? = some x := by rfl) (hv : Vis X.env.scope x := by first | exact Or.inl rfl | exact Or.inr (Or.inl rfl) | exact Or.inr (Or.inr rfl))
    (hd : (x == ("__debug__" : Str)) = false := by decide) (hcd : (x == ("__classdict__" : Str)) = false := by decide) (hs : ∀ y, foldedSetIterable (.Name x px) X.env y = pure y := by intro _; rfl) :
    ES X (.Assign [.Name y py] (.ListComp elt [⟨tg, .Name x px, ifs, 0⟩] scope pos) spos) (tOrLock (tAsg (tLc (iKeys (tVar j)) gt tt te (own.map (·.2))) (gName i))) (lockS j (asgS i (lcE (keyI j) gg cnd fe (own.map (·.2))))) :=
  ⟨ps_orLock (ps_setLc hc hN hy hyl hsw (pi_keys (pe_var hj hv hd hcd)) ok (fun s H C cl fp => (hg s H C cl fp).pe) (fun s H C cl fp => (ht s H C cl fp).pe) (fun s H C cl fp => (he s H C cl fp).pe) hs),
    s_lockS (s_asg (lcL_run s_wiF (hg X.s_0 X.H_0 0 [] []).s (ht X.s_0 X.H_0 0 [] []).s (he X.s_0 X.H_0 0 [] []).s hL)) fun D σ H d od kvs h1 h2 h => keysAt h1 h2 h⟩
end
/-- a def of which nothing is known -/
theorem fd_none {P : Program} {w : World} {K : PySem.W.Frag} {mg : Str → Option Value} {base : Heap} {x qual : Str} {params : Arguments} {body : List Stmt} {scope : Scope} {f : Addr} {fd : FuncData} {N ps : List Str} {k n : Nat}
    (F : FunD K x qual params body scope [] [] f fd) (S : FnScope N ps scope) (hm : mg x = some (.ref f)) (hbd : Binds K fd ps []) (hn : ps.length = n) :
    Fd P w K mg base (k + 1) x n (fun _ => none) := by
  refine ⟨f, fd, ps, ?_, hm, F.kp, hbd⟩
  refine F.ok S (fun vs H Q E h => by rw [hn]; exact h.1) fun cdv A outer s H vs Q E hr h => ?_
  obtain ⟨_, _, _, _, _, _, _, e, _⟩ := h
  cases e
end TR

namespace TR
open PySem L2

/-! ### blocks: each part by what it computes -/
def tvF (K : PySem.W.Frag) (f : M T) : TE := fun σ H Q => ∃ τ τ' d F, f τ = some (d, τ') ∧ Ok K F τ σ H ∧ ∀ v H' F', Ok K F' τ' σ H' → Stp τ σ H F τ' σ H' F' → Rp K F' v d → Q v H'
def tbF (K : PySem.W.Frag) (f : M Bool) : TT := fun σ H Q => ∃ τ τ' b F, f τ = some (b, τ') ∧ Ok K F τ σ H ∧ ∀ H' F', Ok K F' τ' σ H' → Stp τ σ H F τ' σ H' F' → Q b H'
def tgF (K : PySem.W.Frag) (L : List Nat) (g : T → Sls → Option Sls) : TG := fun v σ H Q => ∃ d τ τ' F, g d τ = some τ' ∧ Ok K F τ σ H ∧ Rp K F v d ∧ ∀ σ', Ok K F τ' σ' H → Stp τ σ H F τ' σ' H F → σ'.length = σ.length → (∀ j, j ∉ L → σ'[j]? = σ[j]?) → Q σ' H
theorem s_tvF {K : PySem.W.Frag} {f : M T} : SV K (tvF K f) f := fun τ τ' d σ H F Q e k c => ⟨τ, τ', d, F, e, k, c⟩
theorem s_tbF {K : PySem.W.Frag} {f : M Bool} : SB K (tbF K f) f := fun τ τ' d σ H F Q e k c => ⟨τ, τ', d, F, e, k, c⟩
theorem s_tgF {K : PySem.W.Frag} {L : List Nat} {g : T → Sls → Option Sls} : SG K L (tgF K L g) g := fun d v τ τ' σ H F Q e k r c => ⟨d, τ, τ', F, e, k, r, c⟩
section
variable {Y : Cx} {e tg : Expr} {ifs : List Expr}
def XV (Y : Cx) (e : Expr) (f : M T) : Prop := ∃ te, EV Y e te f
def XT (Y : Cx) (ifs : List Expr) (f : M Bool) : Prop := ∃ te, ET Y ifs te f
def XG (Y : Cx) (tg : Expr) (L : List Nat) (g : T → Sls → Option Sls) : Prop := ∃ te, EG Y tg te L g
def XI (Y : Cx) (tg e : Expr) (f : M (List T)) : Prop := ∃ te, EI Y tg e te f
theorem can_v {f : M T} (h : XV Y e f) : PE Y e (tvF Y.K f) := by
  obtain ⟨te, h⟩ := h
  exact ⟨fun pins s σ H Q I ⟨τ, τ', d, F, e, k, c⟩ => h.pe.run pins s σ H Q I (h.s τ τ' d σ H F Q e k c)⟩
theorem can_t {f : M Bool} (h : XT Y ifs f) : PTs Y ifs (tbF Y.K f) := by
  obtain ⟨te, h⟩ := h
  exact ⟨fun pins s σ H Q I ⟨τ, τ', d, F, e, k, c⟩ => h.pe.run pins s σ H Q I (h.s τ τ' d σ H F Q e k c)⟩
theorem can_g {L : List Nat} {g : T → Sls → Option Sls} (h : XG Y tg L g) : PG Y tg (tgF Y.K L g) := by
  obtain ⟨te, h⟩ := h
  exact ⟨fun pins s σ H x v Q I r ⟨d, τ, τ', F, e, k, r', c⟩ => h.pe.run pins s σ H x v Q I r (h.s d x τ τ' σ H F Q e k r' c)⟩
theorem can_i {f : M (List T)} (h : XI Y tg e f) : PI Y tg e (wiF Y.K f) := by
  obtain ⟨te, h⟩ := h
  exact ⟨fun pins s σ H Q I ⟨τ, τ', d, F, e, k, c⟩ => h.pe.run pins s σ H Q I (h.s τ τ' d σ H F Q e k c)⟩
end
section
variable {X : Cx} {pos : Pos} {elt tg iter tg1 iter1 kx vx : Expr} {ifs ifs1 : List Expr} {scope : Scope} {own : List (Str × Nat)} {wi : TI} {L L1 vs1 : List Nat} {it it1 : M (List T)} {gg gg1 : T → Sls → Option Sls} {cnd cnd1 : M Bool} {fe fk fv : M T} {x : Str} {px : Pos}
theorem x_lc (L : List Nat) (hc : X.calm = true) (hN : X.N.Nodup) (hi : EI X tg iter wi it) (ok : BlkOk X.N X.env.scope scope own)
    (hg : ∀ (s : Shared) (H : Hp) (C : Addr) (cl : List (Str × Addr)) (fp : List Addr), XG (X.blk s H scope (compEnvC scope cl C X.env) fp) tg L gg) (ht : ∀ (s : Shared) (H : Hp) (C : Addr) (cl : List (Str × Addr)) (fp : List Addr), XT (X.blk s H scope (compEnvC scope cl C X.env) fp) ifs cnd)
    (he : ∀ (s : Shared) (H : Hp) (C : Addr) (cl : List (Str × Addr)) (fp : List Addr), XV (X.blk s H scope (compEnvC scope cl C X.env) fp) elt fe) (hL : ∀ j ∈ L, j ∈ own.map (·.2)) (hs : ∀ x, foldedSetIterable iter X.env x = pure x := by intro _; rfl) :
    EE X (.ListComp elt [⟨tg, iter, ifs, 0⟩] scope pos) (tLc wi (tgF X.K L gg) (tbF X.K cnd) (tvF X.K fe) (own.map (·.2))) (lcE it gg cnd fe (own.map (·.2))) :=
  ⟨pe_lc hc hN hi.pe ok (fun s H C cl fp => can_g (hg s H C cl fp)) (fun s H C cl fp => can_t (ht s H C cl fp)) (fun s H C cl fp => can_v (he s H C cl fp)) hs, lcL_run hi.s s_tgF s_tbF s_tvF hL⟩
theorem sx_lc (L : List Nat) {i : Nat} {y : Str} {py spos : Pos} (hc : X.calm = true) (hN : X.N.Nodup) (hy : X.N[i]? = some y) (hyl : X.env.scope.names.lookup y = some .local)
    (hsw : swapsWith (.ListComp elt [⟨tg, iter, ifs, 0⟩] scope pos) (some (.Name y py)) spos.line X.env = pure true) (hi : EI X tg iter wi it) (ok : BlkOk X.N X.env.scope scope own)
    (hg : ∀ (s : Shared) (H : Hp) (C : Addr) (cl : List (Str × Addr)) (fp : List Addr), XG (X.blk s H scope (compEnvC scope cl C X.env) fp) tg L gg) (ht : ∀ (s : Shared) (H : Hp) (C : Addr) (cl : List (Str × Addr)) (fp : List Addr), XT (X.blk s H scope (compEnvC scope cl C X.env) fp) ifs cnd)
    (he : ∀ (s : Shared) (H : Hp) (C : Addr) (cl : List (Str × Addr)) (fp : List Addr), XV (X.blk s H scope (compEnvC scope cl C X.env) fp) elt fe) (hL : ∀ j ∈ L, j ∈ own.map (·.2)) (hs : ∀ x, foldedSetIterable iter X.env x = pure x := by intro _; rfl) :
    ES X (.Assign [.Name y py] (.ListComp elt [⟨tg, iter, ifs, 0⟩] scope pos) spos) (tAsg (tLc wi (tgF X.K L gg) (tbF X.K cnd) (tvF X.K fe) (own.map (·.2))) (gName i)) (asgS i (lcE it gg cnd fe (own.map (·.2)))) :=
  ⟨ps_setLc hc hN hy hyl hsw hi.pe ok (fun s H C cl fp => can_g (hg s H C cl fp)) (fun s H C cl fp => can_t (ht s H C cl fp)) (fun s H C cl fp => can_v (he s H C cl fp)) hs, s_asg (lcL_run hi.s s_tgF s_tbF s_tvF hL)⟩
theorem x_dc (L : List Nat) (hc : X.calm = true) (hN : X.N.Nodup) (hi : EI X tg iter wi it) (ok : BlkOk X.N X.env.scope scope own)
    (hg : ∀ (s : Shared) (H : Hp) (C : Addr) (cl : List (Str × Addr)) (fp : List Addr), XG (X.blk s H scope (compEnvC scope cl C X.env) fp) tg L gg) (ht : ∀ (s : Shared) (H : Hp) (C : Addr) (cl : List (Str × Addr)) (fp : List Addr), XT (X.blk s H scope (compEnvC scope cl C X.env) fp) ifs cnd)
    (hk : ∀ (s : Shared) (H : Hp) (C : Addr) (cl : List (Str × Addr)) (fp : List Addr), XV (X.blk s H scope (compEnvC scope cl C X.env) fp) kx fk)
    (he : ∀ (s : Shared) (H : Hp) (C : Addr) (cl : List (Str × Addr)) (fp : List Addr), XV (X.blk s H scope (compEnvC scope cl C X.env) fp) vx fv) (hL : ∀ j ∈ L, j ∈ own.map (·.2)) (hs : ∀ x, foldedSetIterable iter X.env x = pure x := by intro _; rfl) :
    EE X (.DictComp kx vx [⟨tg, iter, ifs, 0⟩] scope pos) (tDc wi (tgF X.K L gg) (tbF X.K cnd) (tvF X.K fk) (tvF X.K fv) (own.map (·.2))) (dcE it gg cnd fk fv (own.map (·.2))) :=
  ⟨pe_dc hc hN hi.pe ok (fun s H C cl fp => can_g (hg s H C cl fp)) (fun s H C cl fp => can_t (ht s H C cl fp)) (fun s H C cl fp => can_v (hk s H C cl fp)) (fun s H C cl fp => can_v (he s H C cl fp)) hs, dcL_run hi.s s_tgF s_tbF s_tvF s_tvF hL⟩
theorem x_lc2 (L L1 : List Nat) (hc : X.calm = true) (hN : X.N.Nodup) (hi : EI X tg iter wi it) (ok : BlkOk X.N X.env.scope scope own) (hv : ∀ i ∈ vs1, i ∈ own.map (·.2))
    (hg : ∀ (s : Shared) (H : Hp) (C : Addr) (cl : List (Str × Addr)) (fp : List Addr), XG (X.blk s H scope (compEnvC scope cl C X.env) fp) tg L gg) (ht : ∀ (s : Shared) (H : Hp) (C : Addr) (cl : List (Str × Addr)) (fp : List Addr), XT (X.blk s H scope (compEnvC scope cl C X.env) fp) ifs cnd)
    (hi1 : ∀ (s : Shared) (H : Hp) (C : Addr) (cl : List (Str × Addr)) (fp : List Addr), XI (X.blk s H scope (compEnvC scope cl C X.env) fp) tg1 iter1 it1)
    (hg1 : ∀ (s : Shared) (H : Hp) (C : Addr) (cl : List (Str × Addr)) (fp : List Addr), XG (X.blk s H scope (compEnvC scope cl C X.env) fp) tg1 L1 gg1) (ht1 : ∀ (s : Shared) (H : Hp) (C : Addr) (cl : List (Str × Addr)) (fp : List Addr), XT (X.blk s H scope (compEnvC scope cl C X.env) fp) ifs1 cnd1)
    (he : ∀ (s : Shared) (H : Hp) (C : Addr) (cl : List (Str × Addr)) (fp : List Addr), XV (X.blk s H scope (compEnvC scope cl C X.env) fp) elt fe) (hL : ∀ j ∈ L, j ∈ own.map (·.2)) (hL1 : ∀ j ∈ L1, j ∈ vs1)
    (hs : ∀ x, foldedSetIterable iter X.env x = pure x := by intro _; rfl) (hs1 : ∀ env x, foldedSetIterable iter1 env x = pure x := by intro _ _; rfl) :
    EE X (.ListComp elt [⟨tg, iter, ifs, 0⟩, ⟨tg1, iter1, ifs1, 0⟩] scope pos) (tLc2 wi (tgF X.K L gg) (tbF X.K cnd) (wiF X.K it1) (tgF X.K L1 gg1) (tbF X.K cnd1) (tvF X.K fe) (own.map (·.2)) vs1) (lc2E it gg cnd it1 gg1 cnd1 fe (own.map (·.2)) vs1) :=
  ⟨pe_lc2 hc hN hi.pe ok hv (fun s H C cl fp => can_g (hg s H C cl fp)) (fun s H C cl fp => can_t (ht s H C cl fp)) (fun s H C cl fp => can_i (hi1 s H C cl fp)) (fun s H C cl fp => can_g (hg1 s H C cl fp)) (fun s H C cl fp => can_t (ht1 s H C cl fp)) (fun s H C cl fp => can_v (he s H C cl fp)) hs hs1,
    lc2_run hi.s s_tgF s_tbF s_wiF s_tgF s_tbF s_tvF hL hL1 hv⟩
theorem sx_lc2 (L L1 : List Nat) {i : Nat} {y : Str} {py spos : Pos} (hc : X.calm = true) (hN : X.N.Nodup) (hy : X.N[i]? = some y) (hyl : X.env.scope.names.lookup y = some .local)
    (hsw : swapsWith (.ListComp elt [⟨tg, iter, ifs, 0⟩, ⟨tg1, iter1, ifs1, 0⟩] scope pos) (some (.Name y py)) spos.line X.env = pure true) (hi : EI X tg iter wi it) (ok : BlkOk X.N X.env.scope scope own) (hv : ∀ i ∈ vs1, i ∈ own.map (·.2))
    (hg : ∀ (s : Shared) (H : Hp) (C : Addr) (cl : List (Str × Addr)) (fp : List Addr), XG (X.blk s H scope (compEnvC scope cl C X.env) fp) tg L gg) (ht : ∀ (s : Shared) (H : Hp) (C : Addr) (cl : List (Str × Addr)) (fp : List Addr), XT (X.blk s H scope (compEnvC scope cl C X.env) fp) ifs cnd)
    (hi1 : ∀ (s : Shared) (H : Hp) (C : Addr) (cl : List (Str × Addr)) (fp : List Addr), XI (X.blk s H scope (compEnvC scope cl C X.env) fp) tg1 iter1 it1)
    (hg1 : ∀ (s : Shared) (H : Hp) (C : Addr) (cl : List (Str × Addr)) (fp : List Addr), XG (X.blk s H scope (compEnvC scope cl C X.env) fp) tg1 L1 gg1) (ht1 : ∀ (s : Shared) (H : Hp) (C : Addr) (cl : List (Str × Addr)) (fp : List Addr), XT (X.blk s H scope (compEnvC scope cl C X.env) fp) ifs1 cnd1)
    (he : ∀ (s : Shared) (H : Hp) (C : Addr) (cl : List (Str × Addr)) (fp : List Addr), XV (X.blk s H scope (compEnvC scope cl C X.env) fp) elt fe) (hL : ∀ j ∈ L, j ∈ own.map (·.2)) (hL1 : ∀ j ∈ L1, j ∈ vs1)
    (hs : ∀ x, foldedSetIterable iter X.env x = pure x := by intro _; rfl) (hs1 : ∀ env x, foldedSetIterable iter1 env x = pure x := by intro _ _; rfl) :
    ES X (.Assign [.Name y py] (.ListComp elt [⟨tg, iter, ifs, 0⟩, ⟨tg1, iter1, ifs1, 0⟩] scope pos) spos) (tAsg (tLc2 wi (tgF X.K L gg) (tbF X.K cnd) (wiF X.K it1) (tgF X.K L1 gg1) (tbF X.K cnd1) (tvF X.K fe) (own.map (·.2)) vs1) (gName i)) (asgS i (lc2E it gg cnd it1 gg1 cnd1 fe (own.map (·.2)) vs1)) :=
  ⟨ps_setLc2 hc hN hy hyl hsw hi.pe ok hv (fun s H C cl fp => can_g (hg s H C cl fp)) (fun s H C cl fp => can_t (ht s H C cl fp)) (fun s H C cl fp => can_i (hi1 s H C cl fp)) (fun s H C cl fp => can_g (hg1 s H C cl fp)) (fun s H C cl fp => can_t (ht1 s H C cl fp)) (fun s H C cl fp => can_v (he s H C cl fp)) hs hs1,
    s_asg (lc2_run hi.s s_tgF s_tbF s_wiF s_tgF s_tbF s_tvF hL hL1 hv)⟩
theorem x_lcD (L : List Nat) (j : Nat) (hc : X.calm = true) (hN : X.N.Nodup) (ok : BlkOk X.N X.env.scope scope own)
    (hg : ∀ (s : Shared) (H : Hp) (C : Addr) (cl : List (Str × Addr)) (fp : List Addr), XG (X.blk s H scope (compEnvC scope cl C X.env) fp) tg L gg) (ht : ∀ (s : Shared) (H : Hp) (C : Addr) (cl : List (Str × Addr)) (fp : List Addr), XT (X.blk s H scope (compEnvC scope cl C X.env) fp) ifs cnd)
    (he : ∀ (s : Shared) (H : Hp) (C : Addr) (cl : List (Str × Addr)) (fp : List Addr), XV (X.blk s H scope (compEnvC scope cl C X.env) fp) elt fe) (hL : ∀ j ∈ L, j ∈ own.map (·.2)) (hj : X.N[j]? = some x := by rfl) (hv : Vis X.env.scope x := by first | exact Or.inl rfl | exact Or.inr (Or.inl rfl) | exact Or.inr (Or.inr rfl))
    (hd : (x == ("__debug__" : Str)) = false := by decide) (hcd : (x == ("__classdict__" : Str)) = false := by decide) (hs : ∀ y, foldedSetIterable (.Name x px) X.env y = pure y := by intro _; rfl) :
    EE X (.ListComp elt [⟨tg, .Name x px, ifs, 0⟩] scope pos) (tOrLockE (tLc (iKeys (tVar j)) (tgF X.K L gg) (tbF X.K cnd) (tvF X.K fe) (own.map (·.2)))) (lcD j gg cnd fe (own.map (·.2))) :=
  ⟨pe_orLock (pe_lc hc hN (pi_keys (pe_var hj hv hd hcd)) ok (fun s H C cl fp => can_g (hg s H C cl fp)) (fun s H C cl fp => can_t (ht s H C cl fp)) (fun s H C cl fp => can_v (he s H C cl fp)) hs),
    s_lockE (lcL_run s_wiF s_tgF s_tbF s_tvF hL) fun Q σ H d od kvs h1 h2 h => keysAt h1 h2 h⟩
theorem sx_lcD (L : List Nat) {i : Nat} {y : Str} {py spos : Pos} (j : Nat) (hc : X.calm = true) (hN : X.N.Nodup) (hy : X.N[i]? = some y) (hyl : X.env.scope.names.lookup y = some .local)
    (hsw : swapsWith (.ListComp elt [⟨tg, .Name x px, ifs, 0⟩] scope pos) (some (.Name y py)) spos.line X.env = pure true) (ok : BlkOk X.N X.env.scope scope own)
    (hg : ∀ (s : Shared) (H : Hp) (C : Addr) (cl : List (Str × Addr)) (fp : List Addr), XG (X.blk s H scope (compEnvC scope cl C X.env) fp) tg L gg) (ht : ∀ (s : Shared) (H : Hp) (C : Addr) (cl : List (Str × Addr)) (fp : List Addr), XT (X.blk s H scope (compEnvC scope cl C X.env) fp) ifs cnd)
    (he : ∀ (s : Shared) (H : Hp) (C : Addr) (cl : List (Str × Addr)) (fp : List Addr), XV (X.blk s H scope (compEnvC scope cl C X.env) fp) elt fe) (hL : ∀ j ∈ L, j ∈ own.map (·.2)) (hj : X.N[j]? = some x := by rfl) (hv : Vis X.env.scope x := by first | exact Or.inl rfl | exact Or.inr (Or.inl rfl) | exact Or.inr (Or.inr rfl))
    (hd : (x == ("__debug__" : Str)) = false := by decide) (hcd : (x == ("__classdict__" : Str)) = false := by decide) (hs : ∀ y, foldedSetIterable (.Name x px) X.env y = pure y := by intro _; rfl) :
    ES X (.Assign [.Name y py] (.ListComp elt [⟨tg, .Name x px, ifs, 0⟩] scope pos) spos) (tOrLock (tAsg (tLc (iKeys (tVar j)) (tgF X.K L gg) (tbF X.K cnd) (tvF X.K fe) (own.map (·.2))) (gName i))) (lockS j (asgS i (lcE (keyI j) gg cnd fe (own.map (·.2))))) :=
  ⟨ps_orLock (ps_setLc hc hN hy hyl hsw (pi_keys (pe_var hj hv hd hcd)) ok (fun s H C cl fp => can_g (hg s H C cl fp)) (fun s H C cl fp => can_t (ht s H C cl fp)) (fun s H C cl fp => can_v (he s H C cl fp)) hs),
    s_lockS (s_asg (lcL_run s_wiF s_tgF s_tbF s_tvF hL)) fun D σ H d od kvs h1 h2 h => keysAt h1 h2 h⟩
end
end TR

namespace TR
open PySem L2
/-- a def, as its promise -/
theorem ok_of {P : Program} {w : World} {K : PySem.W.Frag} {mg : Str → Option Value} {base : Heap} {x qual : Str} {params : Arguments} {body : List Stmt} {scope : Scope} {f : Addr} {fd : FuncData} {N ps : List Str} {k n m : Nat} {g : Sls → Option Out}
    (F : FunD K x qual params body scope [] [] f fd) (S : FnScope N ps scope) (hn : ps.length = n) (hN : N.length = n + m)
    (hb : ∀ (cdv : Value) (A : Around) (outer : List PySem.Env) (s : Shared) (H : Hp) (E : XK), Room k (A.deeper (PyProof.Rows.envOfC qual scope s.heap.objs.size f cdv)) → ∃ ts, EL (cxOf CX0 P w K mg base N qual scope f cdv A outer s H E).nox body ts g) :
    FnOk P w K mg base CX0 (k + 1) f fd ps (spT K n (fnS m g)) := by
  refine F.ok S (fun vs H Q E h => by rw [hn]; exact h.1) fun cdv A outer s H vs Q E hr h => ?_
  obtain ⟨ts, el⟩ := hb cdv A outer s H E hr
  exact ⟨ts, el.pe.nox, fn_run hN el.s h⟩
theorem fd_mk {P : Program} {w : World} {K : PySem.W.Frag} {mg : Str → Option Value} {base : Heap} {x : Str} {k n : Nat} {fs : FnS} {f : Addr} {fd : FuncData} {ps : List Str} (h : FnOk P w K mg base CX0 k f fd ps (spT K n fs)) (hm : mg x = some (.ref f)) (hk : PySem.W.keepIn K (.ref f) = true) (hb : Binds K fd ps []) : Fd P w K mg base k x n fs := ⟨f, fd, ps, h, hm, hk, hb⟩
/-- the script's slot, the answer -/
theorem law_spec {K : PySem.W.Frag} {fs : FnS} {H : Hp} {a : Addr} {ns : List Int} {τ' : Sls} (hS : SqL K H a (ns.map V.int)) (e : fs [.fr (.frl (ns.map .int))] = some (⟨.bl true, false⟩, τ')) : spT K 1 fs [.ref a] H (fun v _ => v = .bl true) fun _ _ _ => False := by
  refine ⟨rfl, fun b => if b = a then H a else none, [.fr (.frl (ns.map .int))], _, _, ⟨fun b o h => ?_, rfl, fun i s x h1 h2 => ?_, fun i j p r => ?_⟩, ?_, e, fun v H' F' k s q => ?_⟩
  · split at h
    · rename_i z; rw [z]; exact h
    · cases h
  · cases i with
    | zero =>
      simp only [List.getElem?_cons_zero, Option.some.injEq] at h1
      simp only [List.map_cons, List.map_nil, List.getElem?_cons_zero, Option.some.injEq] at h2
      subst h1 h2
      refine ⟨_, rfl, .frl (xs := ns.map V.int) ?_ (RpA.of_map_int ns)⟩
      rcases hS with (h | ⟨o, h⟩) | h
      · exact .inl (.inl (by show (if a = a then H a else none) = _; rw [if_pos rfl]; exact h))
      · exact .inl (.inr ⟨o, by show (if a = a then H a else none) = _; rw [if_pos rfl]; exact h⟩)
      · exact .inr h
    | succ i => simp at h1
  · obtain ⟨s, h1, h2, _⟩ := r
    cases i with
    | zero => simp only [List.getElem?_cons_zero, Option.some.injEq] at h1; subst h1; cases h2
    | succ i => simp at h1
  · intro s hs
    rw [List.mem_singleton.mp hs]
    rfl
  · rcases q with ⟨_, q⟩ | ⟨h, _⟩
    · cases q; rfl
    · cases h

/-! ### the head's look, with what the import brings -/
def gcO (K : PySem.W.Frag) : Bool := He.eqO (PySem.W.nsIn K mainGlobals "gcd") (some (some (.builtin "math.gcd")))
def obG (n : Nat) (fa : List He.Fa) (fn : List He.DefD) (g : Addr → Option Obj) : He.AlD × Bool := (He.obsDG n fa fn g, gcO (He.frG g (He.asD g n)))
def hookG (n : Nat) (fa : List He.Fa) (fn : List He.DefD) : PySem.W.Hook where
  α := He.AlD × Bool
  obs := fun s => obG n fa fn s.heap.get?
  val := fun _ => (He.valD fn, true)
  says := fun _ h => ∃ K : PySem.W.Frag, K.In h ∧ He.SaysD fa fn K ∧ gcO K = true
  of := fun _ _ e => ⟨_, He.frG_in, congrArg Prod.fst e, congrArg Prod.snd e⟩
  keeps := fun _ _ _ ⟨K, hK, c⟩ k => ⟨K, PySem.W.Frag.In.keeps hK k, c⟩
theorem obG_eq {n : Nat} {fa : List He.Fa} {fn : List He.DefD} {g : Addr → Option Obj} {s : Shared} (h : ∀ a, g a = s.heap.get? a) : obG n fa fn g = (hookG n fa fn).obs s := by
  have e : g = s.heap.get? := funext h
  rw [e] <;> rfl
theorem gc_ok {K : PySem.W.Frag} {h : Heap} {mg : Str → Option Value} (X : K.In h) (G : h.Ns mainGlobals mg) (c : gcO K = true) : GcdOk mg := ⟨PySem.W.mg_of X G (He.eqO_ok c)⟩
end TR

namespace TR
open PySem L2

/-! ### evaluation, by simp -/
def Sl.isLn : Sl → Bool
  | .ln _ => true
  | _ => false
def valS : Sl → Option T
  | .fr d => some d
  | .ow d => some d
  | _ => none
section
variable {f g : Sls → Option Out} {τ : Sls} {c : M Bool}
@[simp] theorem ev_sq : sqS f g τ = (f τ).bind fun o => match o with
  | .nx τ1 => g τ1
  | o => some o := id rfl
@[simp] theorem ev_sk : skS τ = some (.nx τ) := id rfl
@[simp] theorem ev_bk : bkS τ = some (.bk τ) := id rfl
@[simp] theorem ev_ct : ctS τ = some (.ct τ) := id rfl
@[simp] theorem ev_if : ifS c f g τ = (c τ).bind fun p => if p.1 = true then f p.2 else g p.2 := id rfl
@[simp] theorem ev_ex {h : M R} : exS h τ = (h τ).map fun p => .nx p.2 := id rfl
@[simp] theorem ev_rt {h : M R} : rtS h τ = (h τ).map fun p => .rt p.1 p.2 := id rfl
@[simp] theorem ev_rtN : rtN τ = some (.rt ⟨.non, false⟩ τ) := id rfl
@[simp] theorem ev_mv {i : Nat} : mvS i τ = match τ[i]? with
  | some (.fr d) => some (.rt ⟨d, false⟩ τ)
  | some (.ow d) => some (.rt ⟨d, true⟩ (τ.set i .no))
  | _ => none := id rfl
@[simp] theorem ev_asg {i : Nat} {h : M R} : asgS i h τ = (h τ).bind fun p => (bnd p.2 i p.1).map .nx := id rfl
@[simp] theorem ev_isLn1 : Sl.isLn .no = false := id rfl
@[simp] theorem ev_isLn2 {d : T} : Sl.isLn (.fr d) = false := id rfl
@[simp] theorem ev_isLn3 {d : T} : Sl.isLn (.ow d) = false := id rfl
@[simp] theorem ev_isLn4 {d : T} : Sl.isLn (.ln d) = true := id rfl
@[simp] theorem ev_valS1 : valS .no = none := id rfl
@[simp] theorem ev_valS2 {d : T} : valS (.fr d) = some d := id rfl
@[simp] theorem ev_valS3 {d : T} : valS (.ow d) = some d := id rfl
@[simp] theorem ev_valS4 {d : T} : valS (.ln d) = none := id rfl
@[simp] theorem ev_bnd {i : Nat} {r : R} : bnd τ i r = (τ[i]?).bind fun s => if s.isLn = true then none else some (τ.set i (if r.o = true then .ow r.d else .fr r.d)) := by
  unfold bnd
  cases τ[i]? with
  | none => rfl
  | some s => cases s <;> rfl
@[simp] theorem ev_ix {j : Nat} {fe fi : M T} : ixS j fe fi τ = (fe τ).bind fun p => (slT p.2[j]?).bind fun _ => (fi p.2).bind fun q => (slT q.2[j]?).bind fun d => (stG d q.1 p.1).bind fun d' => (setR q.2 j d').map .nx := id rfl
@[simp] theorem ev_setR {j : Nat} {d : T} : setR τ j d = match τ[j]? with
  | some (.ow _) => some (τ.set j (.ow d))
  | some (.ln _) => some (τ.set j (.ln d))
  | _ => none := id rfl
@[simp] theorem ev_slT1 {d : T} : slT (some (.fr d)) = some d := id rfl
@[simp] theorem ev_slT2 {d : T} : slT (some (.ow d)) = some d := id rfl
@[simp] theorem ev_slT3 {d : T} : slT (some (.ln d)) = some d := id rfl
@[simp] theorem ev_slT4 : slT (some .no) = none := id rfl
@[simp] theorem ev_vrd {i : Nat} : vrd i τ = (τ[i]?).bind fun s => (valS s).map fun d => (d, τ.set i (.fr d)) := by
  unfold vrd
  cases h : τ[i]? with
  | none => rfl
  | some s =>
    cases s with
    | fr d =>
      have hl := (List.getElem?_eq_some_iff.mp h)
      obtain ⟨hl1, hl2⟩ := hl
      have : τ.set i (.fr d) = τ := by
        rw [← hl2]
        exact List.set_getElem_self hl1
      show some (d, τ) = some (d, τ.set i (.fr d))
      rw [this]
    | no => rfl
    | ow d => rfl
    | ln d => rfl
@[simp] theorem ev_prd {i : Nat} : prdOk i τ = match slT τ[i]? with
  | some _ => some (fun τ2 => slT τ2[i]?, τ)
  | none => none := id rfl
@[simp] theorem ev_cst {d : T} : cst d τ = some (d, τ) := id rfl
@[simp] theorem ev_fz {h : M R} : fz h τ = (h τ).map fun p => (p.1.d, p.2) := by
  unfold fz
  cases h τ <;> rfl
@[simp] theorem ev_rv {h : M T} : rv h τ = (h τ).map fun p => (⟨p.1, false⟩, p.2) := by
  unfold rv
  cases h τ <;> rfl
@[simp] theorem ev_ov {h : M T} : ov h τ = (h τ).map fun p => (fun _ => some p.1, p.2) := by
  unfold ov
  cases h τ <;> rfl
@[simp] theorem ev_op {k : T → T → Option R} {fa fb : M (Sls → Option T)} : opE k fa fb τ = (fa τ).bind fun p => (fb p.2).bind fun q => (p.1 q.2).bind fun x => (q.1 q.2).bind fun y => (k x y).map fun r => (r, q.2) := id rfl
@[simp] theorem ev_bT {h : M R} : bT h τ = (h τ).bind fun p => match p.1.d with
  | .bl b => some (b, p.2)
  | _ => none := id rfl
@[simp] theorem ev_trB {fa : M (Sls → Option T)} : trB fa τ = (fa τ).bind fun p => (p.1 p.2).bind fun x => (truT x).map fun b => (b, p.2) := id rfl
@[simp] theorem ev_andB {f g : M Bool} : andB f g τ = (f τ).bind fun p => if p.1 = true then g p.2 else some (false, p.2) := id rfl
@[simp] theorem ev_orB {f g : M Bool} : orB f g τ = (f τ).bind fun p => if p.1 = true then some (true, p.2) else g p.2 := id rfl
@[simp] theorem ev_notB {f : M Bool} : notB f τ = (f τ).map fun p => (!p.1, p.2) := id rfl
@[simp] theorem ev_yesB : yesB τ = some (true, τ) := id rfl
@[simp] theorem ev_andE {fa : M T} {fb : M R} : andE fa fb τ = (fa τ).bind fun p => (truT p.1).bind fun z => if z = true then fb p.2 else some (⟨p.1, false⟩, p.2) := id rfl
@[simp] theorem ev_orE {fa : M T} {fb : M R} : orE fa fb τ = (fa τ).bind fun p => (truT p.1).bind fun z => if z = true then some (⟨p.1, false⟩, p.2) else fb p.2 := id rfl
@[simp] theorem ev_notE {fa : M (Sls → Option T)} : notE fa τ = (fa τ).bind fun p => (p.1 p.2).bind fun x => (truT x).map fun b => (rb (!b), p.2) := id rfl
@[simp] theorem ev_ifE {t : M Bool} {f g : M R} : ifE t f g τ = (t τ).bind fun p => if p.1 = true then f p.2 else g p.2 := id rfl
@[simp] theorem ev_unE {k : T → Option R} {fa : M (Sls → Option T)} : unE k fa τ = (fa τ).bind fun p => (p.1 p.2).bind fun x => (k x).map fun r => (r, p.2) := id rfl
@[simp] theorem ev_chE {k k' : T → T → Option R} {fa fb fc : M (Sls → Option T)} : chE k k' fa fb fc τ = (fa τ).bind fun p => (fb p.2).bind fun q => (p.1 q.2).bind fun x => (q.1 q.2).bind fun y => (k x y).bind fun r => match r.d with
    | .bl true => (fc q.2).bind fun w => (q.1 w.2).bind fun y' => (w.1 w.2).bind fun z => (k' y' z).map fun r => (r, w.2)
    | .bl false => some (rb false, q.2)
    | _ => none := id rfl
@[simp] theorem ev_nilV : nilV τ = some ([], τ) := id rfl
@[simp] theorem ev_consV {f : M T} {g : M (List T)} : consV f g τ = (f τ).bind fun p => (g p.2).map fun q => (p.1 :: q.1, q.2) := id rfl
@[simp] theorem ev_nilO : nilO τ = some ([], τ) := id rfl
@[simp] theorem ev_consO {f : M (Sls → Option T)} {g : M (List (Sls → Option T))} : consO f g τ = (f τ).bind fun p => (g p.2).map fun q => (p.1 :: q.1, q.2) := id rfl
@[simp] theorem ev_nilC : nilC τ = some ([], τ) := id rfl
@[simp] theorem ev_consC {f : M T} {g : M (List Ag)} : consC f g τ = (f τ).bind fun p => (g p.2).map fun q => (.val p.1 :: q.1, q.2) := id rfl
@[simp] theorem ev_plcC {i : Nat} {g : M (List Ag)} : plcC i g τ = (slT τ[i]?).bind fun _ => (g τ).map fun q => (.plc i :: q.1, q.2) := id rfl
@[simp] theorem ev_allRd0 : allRd [] τ = some [] := id rfl
@[simp] theorem ev_allRd1 {r rs} : allRd (r :: rs) τ = (r τ).bind fun d => (allRd rs τ).map fun ds => d :: ds := id rfl
@[simp] theorem ev_tupE {f : M (List T)} : tupE f τ = (f τ).bind fun p => if p.1.length ≤ sizeLine then some (⟨.tup p.1, false⟩, p.2) else none := id rfl
@[simp] theorem ev_lstE {f : M (List T)} : lstE f τ = (f τ).bind fun p => if p.1.length ≤ sizeLine then some (⟨.lst p.1, true⟩, p.2) else none := id rfl
@[simp] theorem ev_dicE : dicE τ = some (⟨.dic [], true⟩, τ) := id rfl
@[simp] theorem ev_ditE : ditE τ = some (⟨.dit [], true⟩, τ) := id rfl
@[simp] theorem ev_calE {k : List T → Option R} {f : M (List (Sls → Option T))} : calE k f τ = (f τ).bind fun p => (allRd p.1 p.2).bind fun ds => (k ds).map fun r => (r, p.2) := id rfl
@[simp] theorem ev_isiE {n : String} {f : M (Sls → Option T)} : isiE n f τ = (f τ).bind fun p => (p.1 p.2).map fun d => (rb (isiB n d), p.2) := id rfl
@[simp] theorem ev_callE {f : FnS} {fa : M (List Ag)} : callE f fa τ = (fa τ).bind fun p => if nodupN (plcs p.1) = true then (parm p.2 p.1).bind fun τc => (f τc).map fun q => (q.1, unparm p.2 p.1 q.2) else none := id rfl
@[simp] theorem ev_metE {j : Nat} {k : List T → List T → Option (T × List T)} {fa : M (List T)} : metE j k fa τ = (lstOf (slT τ[j]?)).bind fun _ => (fa τ).bind fun p => (lstOf (slT p.2[j]?)).bind fun ds => (k ds p.1).bind fun q => (setR p.2 j (.lst q.2)).map fun τ' => (⟨q.1, false⟩, τ') := id rfl
@[simp] theorem ev_lstOf {ds : List T} : lstOf (some (.lst ds)) = some ds := id rfl
@[simp] theorem ev_lstI {f : M T} : lstI f τ = (f τ).bind fun p => (p.1.seqL).map fun ds => (ds, p.2) := id rfl
@[simp] theorem ev_tupI {f : M T} : tupI f τ = (f τ).bind fun p => match p.1 with
  | .tup ds => some (ds, p.2)
  | _ => none := id rfl
@[simp] theorem ev_enuI {fa : M (List T)} : enuI fa τ = (fa τ).bind fun p => match p.1 with
  | [d] => (d.seqL).map fun ds => (enuT 0 ds, p.2)
  | _ => none := id rfl
@[simp] theorem ev_rng1 {f : M (List (Sls → Option T))} : rng1 f τ = (f τ).bind fun p => (allRd p.1 p.2).bind fun ds => match ds with
  | [.int j] => if rgOk j then some (rngT 0 j.toNat, p.2) else none
  | _ => none := id rfl
@[simp] theorem ev_rng2 {f : M (List (Sls → Option T))} : rng2 f τ = (f τ).bind fun p => (allRd p.1 p.2).bind fun ds => match ds with
  | [.int i, .int j] => if rgOk i && rgOk j then some (rngT i (j - i).toNat, p.2) else none
  | _ => none := id rfl
@[simp] theorem ev_for {it : M (List T)} {k : T → Sls → Option Sls} {b : Sls → Option Out} : forS it k b τ = (it τ).bind fun p => loopS k b p.1 p.2 := id rfl
@[simp] theorem ev_gN {i : Nat} {d : T} : gN i d τ = bnd τ i ⟨d, false⟩ := id rfl
@[simp] theorem ev_gT {k : List T → Sls → Option Sls} {ds : List T} : gT k (.tup ds) τ = k ds τ := id rfl
@[simp] theorem ev_gs0 : gsNil [] τ = some τ := id rfl
@[simp] theorem ev_gs1 {f : T → Sls → Option Sls} {k : List T → Sls → Option Sls} {d : T} {r : List T} : gsCons f k (d :: r) τ = (f d τ).bind fun τ1 => k r τ1 := id rfl
@[simp] theorem ev_lcE {it : M (List T)} {k : T → Sls → Option Sls} {cnd : M Bool} {elt : M T} {own : List Nat} : lcE it k cnd elt own τ =
  (it τ).bind fun p => (lcL k cnd elt own p.1 (wipeT own p.2)).bind fun q => if q.1.length ≤ sizeLine then some (⟨.lst q.1, true⟩, restT own p.2 q.2) else none := id rfl
@[simp] theorem ev_lc2E {it : M (List T)} {k : T → Sls → Option Sls} {cnd : M Bool} {it1 : M (List T)} {g1 : T → Sls → Option Sls} {cnd1 : M Bool} {elt : M T} {own vs1 : List Nat} : lc2E it k cnd it1 g1 cnd1 elt own vs1 τ =
  (it τ).bind fun p => (lc2L k cnd it1 g1 cnd1 elt own vs1 p.1 (wipeT own p.2)).bind fun q => if q.1.length ≤ sizeLine then some (⟨.lst q.1, true⟩, restT own p.2 q.2) else none := id rfl
@[simp] theorem ev_noP : noP τ = some (none, τ) := id rfl
@[simp] theorem ev_soP {f : M T} : soP f τ = (f τ).bind fun p => match p.1 with
  | .int i => some (some i, p.2)
  | _ => none := id rfl
@[simp] theorem ev_slE {fa : M (Sls → Option T)} {fl fh : M (Option Int)} : slE fa fl fh τ = (fa τ).bind fun p => (fl p.2).bind fun l => (fh l.2).bind fun h => (p.1 h.2).bind fun d => (slG d l.1 h.1).map fun r => (r, h.2) := id rfl
@[simp] theorem ev_get2 {j : Nat} {fa fb : M T} : get2E j fa fb τ = (slT τ[j]?).bind fun d => if d.isD = true then (fa τ).bind fun p => (fb p.2).bind fun q => (slT q.2[j]?).bind fun c => (askT c p.1).map fun o => (⟨o.getD q.1, false⟩, q.2) else none := id rfl
@[simp] theorem ev_tuS {fe : M T} {k : T → Sls → Option Sls} : tuS fe k τ = (fe τ).bind fun p => (k p.1 p.2).map .nx := id rfl
@[simp] theorem ev_parS {i j : Nat} {fa : M (List T)} : parS i j fa τ = (fa τ).bind fun p => match p.1 with
  | [a, b] => (bnd p.2 i ⟨a, false⟩).bind fun τ1 => (bnd τ1 j ⟨b, false⟩).map .nx
  | _ => none := id rfl
@[simp] theorem ev_fn {m : Nat} : fnS m f τ = (f (τ ++ List.replicate m .no)).bind fun o => match o with
  | .rt r τ1 => some (r, back τ τ1)
  | .nx τ1 => some (⟨.non, false⟩, back τ τ1)
  | _ => none := id rfl
@[simp] theorem ev_back0 {σ : Sls} : back [] σ = [] := by cases σ <;> rfl
@[simp] theorem ev_back1 {d s : _} {r r1 : Sls} : back (.ln d :: r) (s :: r1) = s :: back r r1 := id rfl
@[simp] theorem ev_back2 {d s : _} {r r1 : Sls} : back (.fr d :: r) (s :: r1) = .fr d :: back r r1 := id rfl
@[simp] theorem ev_parm0 : parm τ [] = some [] := id rfl
@[simp] theorem ev_parm1 {a : Ag} {as : List Ag} : parm τ (a :: as) = (agS τ a).bind fun s => (parm τ as).map fun r => s :: r := id rfl
@[simp] theorem ev_ag1 {d : T} : agS τ (.val d) = some (.fr d) := id rfl
@[simp] theorem ev_ag2 {i : Nat} : agS τ (.plc i) = match τ[i]? with
    | some (.fr d) => some (.fr d)
    | some (.ow d) => some (.ln d)
    | some (.ln d) => some (.ln d)
    | _ => none := id rfl
@[simp] theorem ev_plcs0 : plcs [] = [] := id rfl
@[simp] theorem ev_plcs1 {i : Nat} {r : List Ag} : plcs (.plc i :: r) = i :: plcs r := id rfl
@[simp] theorem ev_plcs2 {d : T} {r : List Ag} : plcs (.val d :: r) = plcs r := id rfl
@[simp] theorem ev_nodup0 : nodupN [] = true := id rfl
@[simp] theorem ev_nodup1 {i : Nat} {r : List Nat} : nodupN (i :: r) = (!r.contains i && nodupN r) := id rfl
@[simp] theorem ev_mapI0 {k : Nat → Sl → Sl} {n : Nat} : mapI k n [] = [] := id rfl
@[simp] theorem ev_mapI1 {k : Nat → Sl → Sl} {n : Nat} {s : Sl} : mapI k n (s :: τ) = k n s :: mapI k (n + 1) τ := id rfl
@[simp] theorem ev_unparm {as : List Ag} {ss : Sls} : unparm τ as ss = mapI (unS as ss) 0 τ := id rfl
@[simp] theorem ev_unS1 {as : List Ag} {ss : Sls} {j : Nat} {d : T} : unS as ss j (.fr d) = .fr d := by unfold unS; cases findP j as ss <;> rfl
@[simp] theorem ev_unS2 {as : List Ag} {ss : Sls} {j : Nat} : unS as ss j .no = .no := by unfold unS; cases findP j as ss <;> rfl
@[simp] theorem ev_unS3 {as : List Ag} {ss : Sls} {j : Nat} {d : T} : unS as ss j (.ow d) = .ow ((findP j as ss).getD d) := by unfold unS; cases findP j as ss <;> rfl
@[simp] theorem ev_unS4 {as : List Ag} {ss : Sls} {j : Nat} {d : T} : unS as ss j (.ln d) = .ln ((findP j as ss).getD d) := by unfold unS; cases findP j as ss <;> rfl
@[simp] theorem ev_fp0 {j : Nat} {ss : Sls} : findP j [] ss = none := by cases ss <;> rfl
@[simp] theorem ev_fp1 {j i : Nat} {as : List Ag} {d : T} {ss : Sls} : findP j (.plc i :: as) (.ln d :: ss) = if i = j then some d else findP j as ss := id rfl
@[simp] theorem ev_fp2 {j i : Nat} {as : List Ag} {d : T} {ss : Sls} : findP j (.plc i :: as) (.fr d :: ss) = findP j as ss := id rfl
@[simp] theorem ev_fp3 {j : Nat} {d : T} {as : List Ag} {s : Sl} {ss : Sls} : findP j (.val d :: as) (s :: ss) = findP j as ss := by cases s <;> rfl
@[simp] theorem ev_wipe0 {own : List Nat} : wipeT own τ = mapI (fun j s => if own.contains j = true then .no else s) 0 τ := id rfl
@[simp] theorem ev_rest0 {own : List Nat} {τ0 : Sls} : restT own τ0 τ = mapI (fun j s => if own.contains j = true then (τ0[j]?).getD .no else s) 0 τ := id rfl
end
section
variable {i j : Int} {ds es : List T}
@[simp] theorem ev_add : addG (.int i) (.int j) = some ⟨.int (i + j), false⟩ := id rfl
@[simp] theorem ev_cat : addG (.lst ds) (.lst es) = if ds.length + es.length ≤ sizeLine then some ⟨.lst (ds ++ es), true⟩ else none := id rfl
@[simp] theorem ev_sub : subG (.int i) (.int j) = some ⟨.int (i - j), false⟩ := id rfl
@[simp] theorem ev_mul : mulG (.int i) (.int j) = if mulOk i j then some ⟨.int (i * j), false⟩ else none := id rfl
@[simp] theorem ev_mod : modG (.int i) (.int j) = if j = 0 then none else some ⟨.int (i.fmod j), false⟩ := id rfl
@[simp] theorem ev_fdiv : fdivG (.int i) (.int j) = if fdivOk j then some ⟨.int (i.fdiv j), false⟩ else none := id rfl
@[simp] theorem ev_pow : powG (.int i) (.int j) = if powOk i j then some ⟨.int (i ^ j.toNat), false⟩ else none := id rfl
@[simp] theorem ev_shl : shlG (.int i) (.int j) = if powOk i j then some ⟨.int (i * 2 ^ j.toNat), false⟩ else none := id rfl
@[simp] theorem ev_and : andG (.int i) (.int j) = some ⟨.int (Builtin.bitAnd i j), false⟩ := id rfl
@[simp] theorem ev_lt : ltG (.int i) (.int j) = some ⟨.bl (decide (i < j)), false⟩ := id rfl
@[simp] theorem ev_le : leG (.int i) (.int j) = some ⟨.bl (decide (i ≤ j)), false⟩ := id rfl
@[simp] theorem ev_gt : gtG (.int i) (.int j) = some ⟨.bl (decide (j < i)), false⟩ := id rfl
@[simp] theorem ev_ge : geG (.int i) (.int j) = some ⟨.bl (decide (j ≤ i)), false⟩ := id rfl
@[simp] theorem ev_eqI : eqG (.int i) (.int j) = some ⟨.bl (decide (i = j)), false⟩ := by
  show some (rb (i == j)) = _
  by_cases h : i = j <;> simp [h]
@[simp] theorem ev_neI : neG (.int i) (.int j) = some ⟨.bl (!decide (i = j)), false⟩ := by
  show some (rb (!(i == j))) = _
  by_cases h : i = j <;> simp [h]
@[simp] theorem ev_neg : negG (.int i) = some ⟨.int (-i), false⟩ := id rfl
@[simp] theorem ev_lenL : lenG [.lst ds] = some ⟨.int ds.length, false⟩ := id rfl
@[simp] theorem ev_lenF : lenG [.frl ds] = some ⟨.int ds.length, false⟩ := id rfl
@[simp] theorem ev_lenT : lenG [.tup ds] = some ⟨.int ds.length, false⟩ := id rfl
@[simp] theorem ev_lenD {kvs : List (T × T)} : lenG [.dic kvs] = some ⟨.int kvs.length, false⟩ := id rfl
@[simp] theorem ev_int1 : intG [.int i] = some ⟨.int i, false⟩ := id rfl
@[simp] theorem ev_ixL : ixG (.lst ds) (.int i) = (atI ds i).map fun d => ⟨d, false⟩ := id rfl
@[simp] theorem ev_ixF : ixG (.frl ds) (.int i) = (atI ds i).map fun d => ⟨d, false⟩ := id rfl
@[simp] theorem ev_ixU : ixG (.tup ds) (.int i) = (atI ds i).map fun d => ⟨d, false⟩ := id rfl
@[simp] theorem ev_stL {v : T} : stG (.lst ds) (.int i) v = (ixN ds.length i).map fun j => .lst (ds.set j v) := id rfl
@[simp] theorem ev_trI : truT (.int i) = some (i != 0) := id rfl
@[simp] theorem ev_trB1 {b : Bool} : truT (.bl b) = some b := id rfl
@[simp] theorem ev_sqL : T.seqL (.lst ds) = some ds := id rfl
@[simp] theorem ev_sqF : T.seqL (.frl ds) = some ds := id rfl
@[simp] theorem ev_listL : listG [.lst ds] = some ⟨.lst ds, true⟩ := id rfl
@[simp] theorem ev_listF : listG [.frl ds] = some ⟨.lst ds, true⟩ := id rfl
@[simp] theorem ev_listT : listG [.tup ds] = some ⟨.lst ds, true⟩ := id rfl
@[simp] theorem ev_tupL : tupleG [.lst ds] = some ⟨.tup ds, false⟩ := id rfl
@[simp] theorem ev_tupF : tupleG [.frl ds] = some ⟨.tup ds, false⟩ := id rfl
@[simp] theorem ev_tupT : tupleG [.tup ds] = some ⟨.tup ds, false⟩ := id rfl
@[simp] theorem ev_app {d : T} (h : ds.length < sizeLine) : appG ds [d] = some (.non, ds ++ [d]) := by
  unfold appG
  simp only [if_pos h]
end
end TR

namespace TR
open PySem L2

/-! ### the pool of draws, alike in all the laws -/
def b_law_mixed : Sls → Option Out :=
  (sqS (asgS 2 (opE modG (ov (fz (calE intG (consO (ov (fz (opE addG (ov (fz (opE addG (ov (fz (opE mulG (prdOk 0) (ov (cst (.int 48271)))))) (ov (fz (opE mulG (prdOk 1) (ov (cst (.int 69621))))))))) (ov (cst (.int 11)))))) nilO)))) (ov (cst (.int 618970019642690137449562111)))))
    (sqS (asgS 3 (opE modG (ov (fz (calE intG (consO (ov (fz (opE addG (ov (fz (opE addG (ov (fz (opE mulG (prdOk 2) (prdOk 2)))) (ov (fz (opE mulG (ov (cst (.int 7))) (prdOk 2))))))) (prdOk 1)))) nilO)))) (ov (cst (.int 162259276829213363391578010288127)))))
    (sqS (asgS 4 (opE modG (ov (fz (calE intG (consO (ov (fz (opE addG (ov (fz (opE mulG (prdOk 3) (prdOk 3)))) (prdOk 2)))) nilO)))) (ov (cst (.int 618970019642690137449562111)))))
    (rtS (opE addG (ov (fz (opE mulG (prdOk 3) (ov (cst (.int 618970019642690137449562111)))))) (prdOk 4))))))
def f_law_mixed : FnS := fnS 3 b_law_mixed
def b_law_rest : Sls → Option Out :=
  (sqS (asgS 3 (rv (cst (.int 0))))
    (sqS (ifS (bT (opE gtG (ov (fz (calE lenG (consO (prdOk 0) nilO)))) (ov (cst (.int 0))))) (asgS 3 (calE intG (consO (ov (fz (opE ixG (prdOk 0) (ov (fz (opE modG (ov (fz (calE intG (consO (prdOk 1) nilO)))) (ov (fz (calE lenG (consO (prdOk 0) nilO)))))))))) nilO))) skS)
    (sqS (ifS (bT (opE ltG (prdOk 3) (ov (cst (.int 0))))) (asgS 3 (opE subG (ov (cst (.int 1))) (ov (fz (opE mulG (ov (cst (.int 2))) (prdOk 3)))))) skS)
    (sqS (ifS (andB (bT (opE eqG (prdOk 2) (ov (cst (.int 0))))) (andB (bT (opE ltG (prdOk 1) (ov (fz (calE lenG (consO (prdOk 0) nilO)))))) (bT (opE geG (prdOk 3) (ov (fz (opE powG (ov (cst (.int 10))) (ov (cst (.int 18)))))))))) (rtS (opE subG (prdOk 3) (ov (fz (opE powG (ov (cst (.int 10))) (ov (cst (.int 18)))))))) skS)
    (rtS (callE f_law_mixed (consC (fz (opE addG (prdOk 3) (ov (fz (opE mulG (prdOk 2) (ov (cst (.int 1000003)))))))) (consC (vrd 1) nilC))))))))
def f_law_rest : FnS := fnS 1 b_law_rest
def b_law_pool : Sls → Option Out :=
  (rtS (lstE (consV (vrd 0) (consV (cst (.int 0)) (consV (fz (callE f_law_rest (consC (vrd 0) (consC (cst (.int 0)) (consC (cst (.int 0)) nilC))))) (consV (cst (.int 0)) nilV))))))
def f_law_pool : FnS := fnS 0 b_law_pool
def b_law_draw : Sls → Option Out :=
  (sqS (ifS (bT (opE leG (ov (fz (opE ixG (prdOk 0) (ov (cst (.int 2)))))) (ov (cst (.int 1))))) (sqS (ixS 0 (fz (opE addG (ov (fz (opE ixG (prdOk 0) (ov (cst (.int 3)))))) (ov (cst (.int 1))))) (cst (.int 3)))
    (ixS 0 (fz (callE f_law_rest (consC (fz (opE ixG (prdOk 0) (ov (cst (.int 0))))) (consC (fz (opE ixG (prdOk 0) (ov (cst (.int 1))))) (consC (fz (opE ixG (prdOk 0) (ov (cst (.int 3))))) nilC))))) (cst (.int 2)))) skS)
    (sqS (asgS 2 (opE modG (ov (fz (calE intG (consO (ov (fz (opE ixG (prdOk 0) (ov (cst (.int 2)))))) nilO)))) (prdOk 1)))
    (sqS (ixS 0 (fz (opE fdivG (ov (fz (calE intG (consO (ov (fz (opE ixG (prdOk 0) (ov (cst (.int 2)))))) nilO)))) (prdOk 1))) (cst (.int 2)))
    (mvS 2))))
def f_law_draw : FnS := fnS 1 b_law_draw
theorem mulOk_big {a b : Int} (ha : a.natAbs < 2 ^ 200) (hb : b.natAbs < 2 ^ 200) : mulOk a b = true := by
  have e : (2 : Nat) ^ 200 ≤ 2 ^ 4096 := Nat.pow_le_pow_right (by decide) (by decide)
  unfold mulOk
  rw [decide_eq_true (Nat.lt_of_lt_of_le ha e), decide_eq_true (Nat.lt_of_lt_of_le hb e)]
  simp
theorem mod_small (a : Int) {b : Int} (h : 0 < b) (hb : b.natAbs < 2 ^ 200) : (a.fmod b).natAbs < 2 ^ 200 := by
  have h1 := Int.fmod_nonneg_of_pos a h
  have h2 := Int.fmod_lt_of_pos a h
  omega
theorem mixed_ok (n p : Int) : ∃ r : Int, f_law_mixed [.fr (.int n), .fr (.int p)] = some (⟨.int r, false⟩, [.fr (.int n), .fr (.int p)]) := by
  have h1 : ∀ a : Int, mulOk a 48271 = true := fun a => by simp [mulOk]
  have h2 : ∀ a : Int, mulOk a 69621 = true := fun a => by simp [mulOk]
  have h3 : ∀ a : Int, mulOk 7 a = true := fun a => by simp [mulOk]
  have h4 : ∀ a : Int, mulOk (a.fmod 618970019642690137449562111) (a.fmod 618970019642690137449562111) = true := fun a => mulOk_big (mod_small a (by decide) (by decide +kernel)) (mod_small a (by decide) (by decide +kernel))
  have h5 : ∀ a : Int, mulOk (a.fmod 162259276829213363391578010288127) (a.fmod 162259276829213363391578010288127) = true := fun a => mulOk_big (mod_small a (by decide) (by decide +kernel)) (mod_small a (by decide) (by decide +kernel))
  have h6 : ∀ a : Int, mulOk (a.fmod 162259276829213363391578010288127) 618970019642690137449562111 = true := fun a => mulOk_big (mod_small a (by decide) (by decide +kernel)) (by decide +kernel)
  unfold f_law_mixed b_law_mixed
  simp [h1, h2, h3, h4, h5, h6]
theorem atI_ok {α : Type} {xs : List α} {i : Int} (h0 : 0 ≤ i) (h1 : i < xs.length) : ∃ x, atI xs i = some x := by
  have h : i.toNat < xs.length := by omega
  refine ⟨xs[i.toNat], ?_⟩
  unfold atI ixN
  rw [if_pos h0, if_pos h1, Option.bind_some, List.getElem?_eq_getElem h]
theorem atI_map {α β : Type} (f : α → β) (xs : List α) (i : Int) : atI (xs.map f) i = (atI xs i).map f := by
  unfold atI
  rw [List.length_map]
  cases ixN xs.length i with
  | none => rfl
  | some j => simp
theorem rest_draw (ns : List Int) (p f : Int) : ∃ r : Int, f_law_rest [.fr (.frl (ns.map .int)), .fr (.int p), .fr (.int f)] = some (⟨.int r, false⟩, [.fr (.frl (ns.map .int)), .fr (.int p), .fr (.int f)]) := by
  have m1 : ∀ a : Int, mulOk 2 a = true := fun a => by simp [mulOk]
  have m2 : ∀ a : Int, mulOk a 1000003 = true := fun a => by simp [mulOk]
  have pw : powOk 10 18 = true := by decide +kernel
  have fin : ∀ m : Int, ∃ r : Int, ((sqS (ifS (bT (opE ltG (prdOk 3) (ov (cst (.int 0))))) (asgS 3 (opE subG (ov (cst (.int 1))) (ov (fz (opE mulG (ov (cst (.int 2))) (prdOk 3)))))) skS)
    (sqS (ifS (andB (bT (opE eqG (prdOk 2) (ov (cst (.int 0))))) (andB (bT (opE ltG (prdOk 1) (ov (fz (calE lenG (consO (prdOk 0) nilO)))))) (bT (opE geG (prdOk 3) (ov (fz (opE powG (ov (cst (.int 10))) (ov (cst (.int 18)))))))))) (rtS (opE subG (prdOk 3) (ov (fz (opE powG (ov (cst (.int 10))) (ov (cst (.int 18)))))))) skS)
    (rtS (callE f_law_mixed (consC (fz (opE addG (prdOk 3) (ov (fz (opE mulG (prdOk 2) (ov (cst (.int 1000003)))))))) (consC (vrd 1) nilC)))))) [.fr (.frl (ns.map .int)), .fr (.int p), .fr (.int f), .fr (.int m)]).bind (fun o => match o with
      | .rt r τ1 => some (r, back [.fr (.frl (ns.map .int)), .fr (.int p), .fr (.int f)] τ1)
      | .nx τ1 => some (⟨.non, false⟩, back [.fr (.frl (ns.map .int)), .fr (.int p), .fr (.int f)] τ1)
      | _ => none) = some (⟨.int r, false⟩, [.fr (.frl (ns.map .int)), .fr (.int p), .fr (.int f)]) := by
    have fin2 : ∀ m : Int, ∃ r : Int, ((sqS (ifS (andB (bT (opE eqG (prdOk 2) (ov (cst (.int 0))))) (andB (bT (opE ltG (prdOk 1) (ov (fz (calE lenG (consO (prdOk 0) nilO)))))) (bT (opE geG (prdOk 3) (ov (fz (opE powG (ov (cst (.int 10))) (ov (cst (.int 18)))))))))) (rtS (opE subG (prdOk 3) (ov (fz (opE powG (ov (cst (.int 10))) (ov (cst (.int 18)))))))) skS)
      (rtS (callE f_law_mixed (consC (fz (opE addG (prdOk 3) (ov (fz (opE mulG (prdOk 2) (ov (cst (.int 1000003)))))))) (consC (vrd 1) nilC))))) [.fr (.frl (ns.map .int)), .fr (.int p), .fr (.int f), .fr (.int m)]).bind (fun o => match o with
      | .rt r τ1 => some (r, back [.fr (.frl (ns.map .int)), .fr (.int p), .fr (.int f)] τ1)
      | .nx τ1 => some (⟨.non, false⟩, back [.fr (.frl (ns.map .int)), .fr (.int p), .fr (.int f)] τ1)
      | _ => none) = some (⟨.int r, false⟩, [.fr (.frl (ns.map .int)), .fr (.int p), .fr (.int f)]) := by
      intro m
      obtain ⟨r, hr⟩ := mixed_ok (m + f * 1000003) p
      by_cases c1 : f = 0
      · subst c1
        simp at hr
        by_cases c2 : p < ns.length <;> by_cases c3 : (1000000000000000000 : Int) ≤ m <;> simp [c2, c3, pw, m2, hr]
      · simp [c1, pw, m2, hr]
    intro m
    by_cases c : m < 0
    · obtain ⟨r, hr⟩ := fin2 (1 - 2 * m)
      refine ⟨r, ?_⟩
      rw [← hr]
      simp [c, m1, m2, pw]
    · obtain ⟨r, hr⟩ := fin2 m
      refine ⟨r, ?_⟩
      rw [← hr]
      simp [c, m2, pw]
  cases ns with
  | nil =>
    obtain ⟨r, hr⟩ := fin 0
    refine ⟨r, ?_⟩
    rw [← hr]
    simp [f_law_rest, b_law_rest, pw, m2] <;> rfl
  | cons n ns =>
    have hp : (0 : Int) < ((n :: ns).length : Int) := Int.ofNat_lt.mpr (Nat.succ_pos _)
    have g1 := Int.fmod_nonneg_of_pos p hp
    have g2 := Int.fmod_lt_of_pos p hp
    obtain ⟨x, hx⟩ := atI_ok g1 g2
    obtain ⟨r, hr⟩ := fin x
    refine ⟨r, ?_⟩
    rw [← hr]
    have hx2 : atI ((n :: ns).map T.int) (p.fmod ((n :: ns).length : Int)) = some (.int x) := by rw [atI_map, hx]; rfl
    have ne : ¬ ((n :: ns).length : Int) = 0 := by omega
    have lp : 0 < (n :: ns).length := Nat.succ_pos _
    have lne : ¬ (n :: ns) = [] := fun z => by cases z
    generalize hl : n :: ns = l at *
    simp [f_law_rest, b_law_rest, hx2, lp, lne, pw, m2] <;> rfl
/-- the pool -/
def PoolT (ns : List Int) (p r f : Int) : T := .lst [.frl (ns.map .int), .int p, .int r, .int f]
theorem pool_ok (ns : List Int) : ∃ r : Int, f_law_pool [.fr (.frl (ns.map .int))] = some (⟨PoolT ns 0 r 0, true⟩, [.fr (.frl (ns.map .int))]) := by
  obtain ⟨r, hr⟩ := rest_draw ns 0 0
  refine ⟨r, ?_⟩
  have z : 4 ≤ sizeLine := by decide
  simp [f_law_pool, b_law_pool, hr, PoolT, z]
theorem draw_ok (ns : List Int) (p r f l : Int) (hl : 0 < l) (hs : fdivOk l = true) : ∃ v r' f' : Int, f_law_draw [.ln (PoolT ns p r f), .fr (.int l)] = some (⟨.int v, false⟩, [.ln (PoolT ns p r' f'), .fr (.int l)]) ∧ 0 ≤ v ∧ v < l := by
  have ne : ¬ l = 0 := by omega
  by_cases c : r ≤ 1
  · obtain ⟨r2, hr⟩ := rest_draw ns p (f + 1)
    refine ⟨r2.fmod l, r2.fdiv l, f + 1, ?_, Int.fmod_nonneg_of_pos _ hl, Int.fmod_lt_of_pos _ hl⟩
    simp [f_law_draw, b_law_draw, PoolT, c, hr, atI, ixN, ne, hs]
  · refine ⟨r.fmod l, r.fdiv l, f, ?_, Int.fmod_nonneg_of_pos _ hl, Int.fmod_lt_of_pos _ hl⟩
    simp [f_law_draw, b_law_draw, PoolT, c, atI, ixN, ne, hs]
def b_law_next : Sls → Option Out :=
  (sqS (ixS 0 (fz (opE addG (ov (fz (opE ixG (prdOk 0) (ov (cst (.int 1)))))) (ov (cst (.int 1))))) (cst (.int 1)))
    (sqS (ixS 0 (fz (callE f_law_rest (consC (fz (opE ixG (prdOk 0) (ov (cst (.int 0))))) (consC (fz (opE ixG (prdOk 0) (ov (cst (.int 1))))) (consC (cst (.int 0)) nilC))))) (cst (.int 2)))
    (ixS 0 (cst (.int 0)) (cst (.int 3)))))
def f_law_next : FnS := fnS 0 b_law_next
def b_law_pick : Sls → Option Out :=
  (rtS (opE ixG (prdOk 1) (ov (fz (callE f_law_draw (plcC 0 (consC (fz (calE lenG (consO (prdOk 1) nilO))) nilC)))))))
def f_law_pick : FnS := fnS 0 b_law_pick
theorem next_ok (ns : List Int) (p r f : Int) : ∃ r' : Int, f_law_next [.ln (PoolT ns p r f)] = some (⟨.non, false⟩, [.ln (PoolT ns (p + 1) r' 0)]) := by
  obtain ⟨r2, hr⟩ := rest_draw ns (p + 1) 0
  refine ⟨r2, ?_⟩
  simp [f_law_next, b_law_next, PoolT, hr, atI, ixN]
theorem pick_ok (ns : List Int) (p r f : Int) (ds : List T) (h0 : ds ≠ []) (h1 : ds.length < 1000000) : ∃ (d : T) (r' f' : Int), d ∈ ds ∧ f_law_pick [.ln (PoolT ns p r f), .fr (.lst ds)] = some (⟨d, false⟩, [.ln (PoolT ns p r' f'), .fr (.lst ds)]) := by
  have hl : (0 : Int) < (ds.length : Int) := Int.ofNat_lt.mpr (List.length_pos_iff.mpr h0)
  obtain ⟨v, r', f', hd, v0, v1⟩ := draw_ok ns p r f ds.length hl (by
    unfold fdivOk
    rw [decide_eq_true (by omega : (ds.length : Int) ≠ 0), decide_eq_true (by omega : (ds.length : Int).natAbs < 1073741824)]
    rfl)
  have hv : v.toNat < ds.length := by omega
  refine ⟨ds[v.toNat], r', f', List.getElem_mem hv, ?_⟩
  have ha : atI ds v = some ds[v.toNat] := by
    unfold atI ixN
    rw [if_pos v0, if_pos v1, Option.bind_some, List.getElem?_eq_getElem hv]
  unfold PoolT at *
  simp [f_law_pick, b_law_pick, hd, ha]
end TR

namespace TR
open PySem L2

/-! ### loops, by what one turn does -/
def lcOne (g : T → Sls → Option Sls) (cnd : M Bool) (elt : M T) (own : List Nat) (d : T) : Sls → Option (Option T × Sls) := fun τ =>
  (g d τ).bind fun τ1 => (cnd τ1).bind fun p => if p.1 = true then (elt p.2).map fun q => (some q.1, wipeT own q.2) else some (none, wipeT own p.2)
theorem lcL_one {g : T → Sls → Option Sls} {cnd : M Bool} {elt : M T} {own : List Nat} {d : T} {r : List T} {τ τ' : Sls} {o : Option T} (h : lcOne g cnd elt own d τ = some (o, τ')) :
    lcL g cnd elt own (d :: r) τ = (lcL g cnd elt own r τ').map fun z => (o.toList ++ z.1, z.2) := by
  unfold lcOne at h
  obtain ⟨τ1, h1, h⟩ := Option.bind_eq_some_iff.mp h
  obtain ⟨p, h2, h⟩ := Option.bind_eq_some_iff.mp h
  rw [lcL, h1, Option.bind_some, h2, Option.bind_some]
  split at h
  · rename_i hp
    obtain ⟨q, h3, h⟩ := Option.map_eq_some_iff.mp h
    cases h
    rw [if_pos hp, h3, Option.bind_some]
    rfl
  · rename_i hp
    cases h
    rw [if_neg hp]
    cases lcL g cnd elt own r (wipeT own p.2) <;> rfl
theorem lcL_fm {g : T → Sls → Option Sls} {cnd : M Bool} {elt : M T} {own : List Nat} {τ : Sls} (e : T → Option T) : ∀ (ds : List T), (∀ d ∈ ds, lcOne g cnd elt own d τ = some (e d, τ)) → lcL g cnd elt own ds τ = some (ds.filterMap e, τ)
  | [], _ => rfl
  | d :: r, h => by
    rw [lcL_one (h d (by simp)), lcL_fm e r fun x hx => h x (by simp [hx])]
    cases hd : e d <;> simp [hd]
/-- .. where a turn changes the slots -/
theorem lcL_rel {g : T → Sls → Option Sls} {cnd : M Bool} {elt : M T} {own : List Nat} (R : Sls → Prop) (P : T → T → Prop) : ∀ (ds : List T), (∀ d ∈ ds, ∀ τ, R τ → ∃ x τ', lcOne g cnd elt own d τ = some (some x, τ') ∧ R τ' ∧ P d x) →
    ∀ τ, R τ → ∃ xs τ', lcL g cnd elt own ds τ = some (xs, τ') ∧ R τ' ∧ xs.length = ds.length ∧ ∀ (i : Nat) (d x : T), ds[i]? = some d → xs[i]? = some x → P d x
  | [], _, τ, hR => ⟨[], τ, rfl, hR, rfl, fun i d x h => by simp at h⟩
  | d :: r, h, τ, hR => by
    obtain ⟨x, τ1, h1, h2, h3⟩ := h d (by simp) τ hR
    obtain ⟨xs, τ2, h4, h5, h6, h7⟩ := lcL_rel R P r (fun y hy => h y (by simp [hy])) τ1 h2
    refine ⟨x :: xs, τ2, by rw [lcL_one h1, h4]; rfl, h5, by simp [h6], fun i d' x' e1 e2 => ?_⟩
    cases i with
    | zero => simp at e1 e2; subst e1 e2; exact h3
    | succ i => exact h7 i d' x' (by simpa using e1) (by simpa using e2)
theorem loopS_rel {α β : Type} {g : T → Sls → Option Sls} {body : Sls → Option Out} (R : α → Sls → Prop) (e : β → T) (st : α → β → α) : ∀ (xs : List β), (∀ s τ x, x ∈ xs → R s τ → ∃ τ', (g (e x) τ).bind body = some (.nx τ') ∧ R (st s x) τ') →
    ∀ s τ, R s τ → ∃ τ', loopS g body (xs.map e) τ = some (.nx τ') ∧ R (xs.foldl st s) τ'
  | [], _, s, τ, hR => ⟨τ, rfl, hR⟩
  | x :: r, h, s, τ, hR => by
    obtain ⟨τ1, h1, h2⟩ := h s τ x (by simp) hR
    obtain ⟨τ2, h3, h4⟩ := loopS_rel R e st r (fun s τ y hy => h s τ y (by simp [hy])) _ τ1 h2
    obtain ⟨τ0, g1, g2⟩ := Option.bind_eq_some_iff.mp h1
    refine ⟨τ2, ?_, h4⟩
    rw [List.map_cons, loopS, g1, Option.bind_some, g2]
    exact h3
def runW {α : Type} (done : α → Bool) (st : α → α) : Nat → α → Option α
  | 0, _ => none
  | n + 1, s => if done s = true then some s else runW done st n (st s)
theorem runW_mono {α : Type} {done : α → Bool} {st : α → α} : ∀ {n m : Nat} {s s' : α}, n ≤ m → runW done st n s = some s' → runW done st m s = some s'
  | 0, _, _, _, _, h => by cases h
  | n + 1, 0, _, _, h, _ => absurd h (by omega)
  | n + 1, m + 1, s, s', hl, h => by
    unfold runW at h ⊢
    split at h
    · rename_i hd; rw [if_pos hd]; exact h
    · rename_i hd; rw [if_neg hd]; exact runW_mono (by omega) h
theorem whS_rel {α : Type} {c : M Bool} {b : Sls → Option Out} (R : α → Sls → Prop) (done : α → Bool) (st : α → α) (hc : ∀ s τ, R s τ → ∃ τ', c τ = some (!done s, τ') ∧ R s τ')
    (hb : ∀ s τ, R s τ → done s = false → ∃ τ', b τ = some (.nx τ') ∧ R (st s) τ') : ∀ (n : Nat) (s s' : α) (τ : Sls), R s τ → runW done st n s = some s' → ∃ τ', whS c b n τ = some (.nx τ') ∧ R s' τ'
  | 0, _, _, _, _, h => by cases h
  | n + 1, s, s', τ, hR, h => by
    obtain ⟨τ1, h1, h2⟩ := hc s τ hR
    rw [whS, h1, Option.bind_some]
    unfold runW at h
    cases hd : done s with
    | true =>
      rw [if_pos hd] at h
      cases h
      exact ⟨τ1, rfl, h2⟩
    | false =>
      rw [if_neg (by rw [hd]; exact Bool.false_ne_true)] at h
      obtain ⟨τ2, h3, h4⟩ := hb s τ1 h2 hd
      obtain ⟨τ3, h5, h6⟩ := whS_rel R done st hc hb n _ s' τ2 h4 h
      refine ⟨τ3, ?_, h6⟩
      show ((b τ1).bind fun o => _) = _
      rw [h3]
      exact h5
theorem lc2L_fm {g : T → Sls → Option Sls} {it1 : M (List T)} {g1 : T → Sls → Option Sls} {cnd1 : M Bool} {elt : M T} {own vs1 : List Nat} {τ : Sls} (e : T → List T) : ∀ (ds : List T),
    (∀ d ∈ ds, ∃ τ1 es τ2 τ3, g d τ = some τ1 ∧ it1 τ1 = some (es, τ2) ∧ lcL g1 cnd1 elt vs1 es (wipeT vs1 τ2) = some (e d, τ3) ∧ wipeT own τ3 = τ) → lc2L g yesB it1 g1 cnd1 elt own vs1 ds τ = some (ds.flatMap e, τ)
  | [], _ => rfl
  | d :: r, h => by
    obtain ⟨τ1, es, τ2, τ3, h1, h2, h3, h4⟩ := h d (by simp)
    rw [lc2L, h1, Option.bind_some, ev_yesB, Option.bind_some, if_pos rfl, h2, Option.bind_some, h3, Option.bind_some, h4, lc2L_fm e r fun x hx => h x (by simp [hx])]
    rfl

/-! ### lists of bits -/
def eB (b : Bool) : T := .int (if b then 1 else 0)
def eL (l : List Bool) : T := .lst (l.map eB)
theorem eqvA_bits : ∀ a b : List Bool, eqvA (a.map eB) (b.map eB) = decide (a = b)
  | [], [] => rfl
  | [], _ :: _ => rfl
  | _ :: _, [] => rfl
  | x :: xs, y :: ys => by
    show ((eB x).eqv (eB y) && eqvA (xs.map eB) (ys.map eB)) = _
    rw [eqvA_bits]
    cases x <;> cases y <;> by_cases h : xs = ys <;> simp [h, eB, T.eqv]
theorem eqv_bits (a b : List Bool) : (eL a).eqv (eL b) = decide (a = b) := eqvA_bits a b
theorem layA_bits : ∀ a : List Bool, layA (a.map eB) = true
  | [] => rfl
  | x :: xs => by
    show ((eB x).lay && layA (xs.map eB)) = true
    rw [layA_bits]
    rfl
theorem depA_bits : ∀ a : List Bool, depA (a.map eB) = 0
  | [] => rfl
  | x :: xs => by
    show max (eB x).dep (depA (xs.map eB)) = 0
    rw [depA_bits]
    rfl
theorem shp_bits (a : List Bool) : (eL a).shp = true := by
  unfold T.shp
  have h1 : (eL a).lay = true := layA_bits a
  have h2 : (eL a).dep = 1 := by show depA (a.map eB) + 1 = 1; rw [depA_bits]
  rw [h1, h2]
  rfl
theorem layA_rows : ∀ a : List (List Bool), layA (a.map eL) = true
  | [] => rfl
  | x :: xs => by
    show ((eL x).lay && layA (xs.map eL)) = true
    rw [layA_rows, show (eL x).lay = true from layA_bits x]
    rfl
theorem depA_rows : ∀ a : List (List Bool), depA (a.map eL) ≤ 1
  | [] => by decide
  | x :: xs => by
    show max (eL x).dep (depA (xs.map eL)) ≤ 1
    have h2 : (eL x).dep = 1 := by show depA (x.map eB) + 1 = 1; rw [depA_bits]
    have := depA_rows xs
    omega
theorem shp_rows (a : List (List Bool)) : (T.lst (a.map eL)).shp = true := by
  unfold T.shp
  have h1 : (T.lst (a.map eL)).lay = true := layA_rows a
  have h2 : (T.lst (a.map eL)).dep ≤ 64 := by
    show depA (a.map eL) + 1 ≤ 64
    have := depA_rows a
    omega
  rw [h1, decide_eq_true h2]
  rfl
@[simp] theorem eq_bits (a b : List Bool) : eqG (eL a) (eL b) = some ⟨.bl (decide (a = b)), false⟩ := by
  unfold eqG
  rw [shp_bits, shp_bits, eqv_bits]
  rfl
@[simp] theorem ne_bits (a b : List Bool) : neG (eL a) (eL b) = some ⟨.bl (!decide (a = b)), false⟩ := by
  unfold neG
  rw [shp_bits, shp_bits, eqv_bits]
  rfl
theorem any_rows (a : List Bool) : ∀ s : List (List Bool), ((s.map eL).any fun z => z.eqv (eL a)) = s.any fun z => decide (z = a)
  | [] => rfl
  | x :: xs => by
    rw [List.map_cons, List.any_cons, List.any_cons, any_rows a xs, eqv_bits]
theorem nin_rows (a : List Bool) (s : List (List Bool)) : ninG (eL a) (.lst (s.map eL)) = some ⟨.bl (!s.any fun z => decide (z = a)), false⟩ := by
  unfold ninG inT
  dsimp only
  rw [shp_bits, shp_rows, any_rows]
  rfl
end TR

namespace TR
open PySem L2

/-! ### range with a step -/
def rngS (lo c : Int) : Nat → List T
  | 0 => []
  | n + 1 => .int lo :: rngS (lo + c) c n
theorem rngS_length : ∀ (n : Nat) (lo c : Int), (rngS lo c n).length = n
  | 0, _, _ => rfl
  | n + 1, lo, c => congrArg Nat.succ (rngS_length n _ _)
theorem rngS_get : ∀ (n : Nat) (lo c : Int) (i : Nat), i < n → (rngS lo c n)[i]? = some (.int (lo + (i : Nat) * c))
  | 0, _, _, _, h => absurd h (Nat.not_lt_zero _)
  | n + 1, lo, c, 0, _ => by simp [rngS]
  | n + 1, lo, c, i + 1, h => by
    rw [rngS, List.getElem?_cons_succ, rngS_get n (lo + c) c i (by omega)]
    congr 2
    have e : ((i + 1 : Nat) : Int) * c = (i : Int) * c + c := by
      rw [Int.natCast_add, Int.add_mul]
      simp
    rw [e]
    omega
theorem yld_rngC {K : PySem.W.Frag} {F : Hp} {lo c : Int} {n : Nat} : Yld K (Itc lo c n) F (rngS lo c n) := by
  refine ⟨fun H _ => Nat.le_of_eq (rngS_length n lo c).symm, fun i d H F1 hi s1 s2 => ?_⟩
  have hl : i < n := by
    have := (List.getElem?_eq_some_iff.mp hi).1
    rw [rngS_length] at this
    exact this
  rw [rngS_get n lo c i hl] at hi
  cases hi
  refine ⟨hl, fun x H' y => ?_⟩
  obtain ⟨rfl, rfl⟩ := y
  exact ⟨F1, .refl s2, .int _⟩
def rgcN (i j c : Int) : Option Nat := if (decide (c ≠ 0) && Nat.ble c.natAbs 1073741823 && Builtin.Range.small i j c && decide (Builtin.Range.rangeSize i j c = ((Builtin.Range.rangeSize i j c).toNat : Int))) = true then some (Builtin.Range.rangeSize i j c).toNat else none
theorem rgcN_ok {i j c : Int} {n : Nat} (h : rgcN i j c = some n) : RgC i j c n := by
  unfold rgcN at h
  split at h
  · rename_i hz
    cases h
    simp only [Bool.and_eq_true, decide_eq_true_eq] at hz
    exact ⟨hz.1.1.1, by have := Nat.le_of_ble_eq_true hz.1.1.2; omega, hz.1.2, hz.2⟩
  · cases h
theorem rgcN_down (i j : Int) (hi : rgOk i = true) (hj : rgOk j = true) : rgcN i j (-1) = some (i - j).toNat := by
  obtain ⟨i1, i2⟩ := rgOk_spec hi
  obtain ⟨j1, j2⟩ := rgOk_spec hj
  obtain ⟨h1, h2, h3, h4⟩ := RgC.neg i1 i2 j1 j2
  unfold rgcN
  rw [h3, h4, Int.toNat_natCast, decide_eq_true (rfl : (((i - j).toNat : Nat) : Int) = ((i - j).toNat : Nat))]
  exact if_pos (by decide)
def rng3 (f : M (List (Sls → Option T))) : M (List T) := fun τ => (f τ).bind fun p => (allRd p.1 p.2).bind fun ds => match ds with
  | [.int i, .int j, .int c] => (rgcN i j c).map fun n => (rngS i c n, p.2)
  | _ => none
theorem s_rng3 {K : PySem.W.Frag} {ta : TA} {f : M (List (Sls → Option T))} (h : SAO K ta f) : SI K (iRng3 ta) (rng3 f) := by
  intro τ τ' ds σ H F R e k c
  unfold rng3 at e
  obtain ⟨p, h1, e⟩ := Option.bind_eq_some_iff.mp e
  obtain ⟨as, h2, e⟩ := Option.bind_eq_some_iff.mp e
  split at e
  · obtain ⟨n, h3, e⟩ := Option.map_eq_some_iff.mp e
    cases e
    refine h τ p.2 p.1 σ H F _ h1 k fun vs H1 F1 k1 s1 l1 => ?_
    cases l1 _ _ _ _ k1 .refl h2 with
    | cons a b =>
      cases b with
      | cons b d =>
        cases d with
        | cons d d' =>
          cases d'
          rw [a.int, b.int, d.int]
          exact ⟨_, _, _, n, rfl, rgcN_ok h3, c _ H1 F1 k1 s1 yld_rngC⟩
  · cases e
theorem i_rng3 {X : Cx} {tg e e2 e3 : Expr} {ta : TA} {fa : M (List (Sls → Option T))} {p pos : Pos} (hg : Gl X "range") (hm : X.mg "range" = none) (ha : EAO X [e, e2, e3] ta fa)
    (hs : starEach [e, e2, e3] X.env = (false, eval e X.env) :: starEach [e2, e3] X.env := by rfl) (hpl : (backTo pos (starEach [e2, e3] X.env)).any (·.1) = false := by rfl) :
    EI X tg (.Call (.Name "range" p) [e, e2, e3] [] pos) (iRng3 ta) (rng3 fa) := ⟨pi_range3 hg hm ha.pe hs hpl, s_rng3 ha.s⟩
@[simp] theorem ev_rng3 {τ : Sls} {f : M (List (Sls → Option T))} : rng3 f τ = (f τ).bind fun p => (allRd p.1 p.2).bind fun ds => match ds with
  | [.int i, .int j, .int c] => (rgcN i j c).map fun n => (rngS i c n, p.2)
  | _ => none := id rfl
@[simp] theorem ev_unS5 {as : List Ag} {ss : Sls} {j : Nat} {s : Sl} (h : findP j as ss = none) : unS as ss j s = s := by
  unfold unS
  rw [h]
  cases s <;> rfl
@[simp] theorem ev_fp5 {j : Nat} {d : T} {as : List Ag} {ss : Sls} : findP j (.val d :: as) ss = findP j as ss.tail := by
  cases ss with
  | nil => cases as with
    | nil => rfl
    | cons a r => cases a <;> rfl
  | cons s r => cases s <;> rfl
end TR

namespace TR
open PySem L2 PyProof.Rows

/-! ### enumerate over a tuple -/
theorem enum_new1 {x : Value} {ob : Obj} {Hh : Heap → Prop} (B : Begins x ob Hh) : Meets (Builtin.«enumerate.__new__» ⟨[.type "enumerate", x], []⟩)
    (fun _ R s => Hh s.heap ∧ R (.ok (.ret (.ref (s.heap.push ob).objs.size)))
      { s with heap := (s.heap.push ob).push { cls := .type "enumerate", data := .fields #[.none, .bool false, .ref s.heap.objs.size, rawInt 0, .none, .none] } }) := by
  refine .of_wp fun prog w A R s hs => ?_
  obtain ⟨hp, gg, dd, tt, oo⟩ := s
  obtain ⟨hb, hs⟩ := hs
  have hsub := sub_enumerate
  have go : ∀ {A' : Around} {E' : Value → Shared → Prop} {Q' : Value → Shared → Prop}, Q' (.ref hp.objs.size) ⟨hp.push ob, gg, dd, tt, oo⟩ → wpAny (model prog w) A' (pyIter x) Q' E' ⟨hp, gg, dd, tt, oo⟩ := fun z => B.iter prog w _ _ ⟨hp, gg, dd, tt, oo⟩ _ hb z
  wp_walk using go
  refine wpAny_stack_any fun stk => wpAny_pure ?_
  split
  · rename_i cc _ _ _ _ _
    cases (cc == Value.type "enumerate") <;> (wp_walk using go; exact ⟨_, rfl, hs⟩)
  · wp_walk using go
    exact ⟨_, rfl, hs⟩
section
variable {prog : Program} {w : World} {A : Around} {E : Value → Shared → Prop} {s : Shared}
theorem enum_call1 {x : Value} {ob : Obj} {Hh : Heap → Prop} {Q : Value → Shared → Prop} (B : Begins x ob Hh) (hb : Hh s.heap)
    (k : ∀ g, IsEnum g (s.heap.objs.size + 1) s.heap.objs.size 0 .none → g.get? s.heap.objs.size = some ob → (∀ b o, s.heap.get? b = some o → g.get? b = some o) → Q (.ref (s.heap.objs.size + 1)) { s with heap := g }) :
    wpAny (model prog w) A (call (.type "enumerate") [x]) Q E s := by
  refine callType_new F.called_enumerate (by decide) (F.typeCall_enumerate_1 _) (F.newCall_enumerate_1 _) (fun y => F.args_object_init_2 y _) F.entry_enumerate_new (enum_new1 B) ⟨hb, ?_⟩
  have z : (s.heap.push ob).objs.size = s.heap.objs.size + 1 := Heap.size_push ..
  show _ ∧ _
  rw [z]
  have he : IsEnum ((s.heap.push ob).push { cls := .type "enumerate", data := .fields #[.none, .bool false, .ref s.heap.objs.size, rawInt 0, .none, .none] }) (s.heap.objs.size + 1) s.heap.objs.size 0 .none := by
    have q := Heap.get?_push_size (s.heap.push ob) (o := { cls := .type "enumerate", data := .fields #[.none, .bool false, .ref s.heap.objs.size, rawInt 0, .none, .none] }) rfl
    rw [z] at q
    exact q
  exact ⟨⟨_, he, rfl⟩, k _ he (Heap.get?_push_of_some _ (Heap.get?_push_size _ B.free)) fun b o e => Heap.get?_push_of_some _ (Heap.get?_push_of_some _ e)⟩
end
def IteT (K : PySem.W.Frag) (a : Addr) : It :=
  ⟨fun i H => ∃ (xs : List V) (x : V), SqT K H a xs ∧ xs[i]? = some x,
    fun i H v H' => ∃ q x, v = .ref q ∧ H q = none ∧ H' = upd H q (.tup [.int (i : Nat), x]) ∧ ∀ xs, SqT K H a xs → xs[i]? = some x,
    fun i H => ∃ xs : List V, SqT K H a xs ∧ xs.length ≤ i⟩
theorem turn_enumT {P : Program} {w : World} {K : PySem.W.Frag} {elts : List Expr} {kk : Nat} {tpos : Pos} (a e it : Addr) :
    Turn P w K (.Tuple elts kk tpos) (IteT K a) [e, it] e (fun i h => (∃ old, IsEnum h e it ((i : Nat) : Int) old) ∧ h.IsTupleIter it a i ∧ e ≠ it) where
  mem := by simp
  obj := fun i h st b hb => by
    obtain ⟨⟨old, he⟩, ⟨o, ho, hc, hd⟩, _⟩ := st
    rcases (show b = e ∨ b = it by simpa using hb) with z | z
    · subst z
      exact ⟨_, he, fun v q => nomatch q⟩
    · subst z
      exact ⟨o, ho, fun v q => by rw [hd] at q; cases q⟩
  keep := fun i h h' st k => by
    obtain ⟨⟨old, he⟩, hi, hne⟩ := st
    exact ⟨⟨old, k e (by simp) _ he⟩, hi.at fun o q => k it (by simp) o q, hne⟩
  item := by
    intro X hP hw hK hc i pins s σ H E I hf st hg
    subst hP hw hK
    obtain ⟨⟨old, he⟩, hit, hne⟩ := st
    obtain ⟨xs, x, hq, hx⟩ := hg
    obtain ⟨its, rv, p, hz⟩ := I.tuple hq
    obtain ⟨u, hu, ru⟩ := rv.get hx
    have hpt : s.heap.IsTuple a its.toArray := p
    have hai : a ≠ it := fun z => by
      obtain ⟨o1, g1, c1, _⟩ := hpt
      obtain ⟨o2, g2, c2, _⟩ := hit
      rw [z, g2] at g1
      cases g1
      rw [c2] at c1
      exact absurd c1 (by decide)
    have hea : e ≠ a := fun z => by
      obtain ⟨o1, g1, c1, _⟩ := hpt
      have g2 : s.heap.get? e = some _ := he
      rw [z, g1] at g2
      cases g2
      have c2 : (Value.type "enumerate") = .type "tuple" := c1
      exact absurd c2 (by decide)
    have hel : e < s.heap.objs.size := Heap.lt_size he
    have hil : it < s.heap.objs.size := by
      obtain ⟨_, q, _⟩ := id hit
      exact Heap.lt_size q
    have D := Draws.tuple (prog := X.prog) (w := X.w) (A := X.A.in1) (I.ok.hd hc) it a hai its.toArray
    have hlt : i < its.toArray.size := by
      have q := (List.getElem?_eq_some_iff.mp hu).1
      simpa using q
    refine wpAny_pyNext_enum_itemC D he ⟨hit, hpt⟩ hlt hne (by simp [hne, hea]) fun y h' tk hy ho hst' hT hsz hk => ?_
    have hyu : y = u := by
      have q : its.toArray[i]? = some u := by simpa using hu
      rw [q] at hy
      exact (Option.some.inj hy).symm
    subst hyu
    refine ⟨_, rfl, wpAny_letOwnedTupleGo_enum (s := { s with heap := h', toks := tk + 1 }) ho fun h2 he2 sb => ?_⟩
    have hT2 : h2.get? s.heap.objs.size = some { cls := .type "tuple", data := .seq #[.int i tk, y] } := (sb.2 _ (Nat.ne_of_gt hel)).trans hT
    have nw : ObjOk X.prog X.w (upd H s.heap.objs.size (.tup [.int (i : Nat), x])) h2 s.heap.objs.size (.tup [.int (i : Nat), x]) := by
      refine ⟨?_, [.int i tk, y], .cons ⟨_, rfl⟩ (.cons ru .nil), ⟨_, hT2, rfl, _, rfl⟩⟩
      show 2 ≤ sizeLine
      decide
    have I1 : Inv X pins σ (upd H s.heap.objs.size (.tup [.int (i : Nat), x])) { s with heap := h2, toks := tk + 1 } := by
      refine I.turnedNew (ch := [e, it]) (fun b ob hb q => ?_) hf (Nat.le_refl _) nw
      have b1 : b ≠ e := fun z => hb (by simp [z])
      have b2 : b ≠ it := fun z => hb (by simp [z])
      exact (sb.2 b b1).trans (hk b ob b1 b2 q)
    refine ⟨.ref s.heap.objs.size, _, I1, rfl, ⟨_, x, rfl, I.hok.fresh (Nat.le_refl _), rfl, fun ys hy => ?_⟩, ⟨⟨y, ?_⟩, hst'.1.at fun o q => (sb.2 it (Ne.symm hne)).trans q, hne⟩, fun b hb => ?_⟩
    · rw [I.tuple_inj hy hq]
      exact hx
    · rw [show ((i + 1 : Nat) : Int) = (i : Int) + 1 by omega]
      exact he2
    · have hb2 : b < s.heap.objs.size := by
        rcases (show b = e ∨ b = it by simpa using hb) with z | z
        · rw [z]; exact hel
        · rw [z]; exact hil
      rw [upd_ne (Nat.ne_of_lt hb2)]
      exact (hf b hb).1
  done := by
    intro X hP hw hK hc i pins s σ H E I hf st hg
    subst hP hw hK
    obtain ⟨⟨old, he⟩, hit, hne⟩ := st
    obtain ⟨xs, hq, hx⟩ := hg
    obtain ⟨its, rv, p, hz⟩ := I.tuple hq
    have hpt : s.heap.IsTuple a its.toArray := p
    have hl := rv.length
    have D : Draws X.prog X.w X.A.in1 it [it, a] i (fun _ _ => True) (fun j h => j = i ∧ h.IsTupleIter it a i ∧ h.IsTuple a its.toArray) := {
      live := fun _ _ st => let ⟨o, ho, _⟩ := st.2.1; ⟨o, ho⟩
      frame := fun _ _ _ st hk => ⟨st.1, st.2.1.at fun o q => hk it (by simp) o q, st.2.2.at fun o q => hk a (by simp) o q⟩
      item := fun j s Q E hi st hQ => absurd st.1 (Nat.ne_of_lt hi)
      done := fun s Q E st hE => wpAny_nextOf_tuple_end (I.ok.hd hc) st.2.1 st.2.2 (by simp; omega) hE }
    obtain ⟨f0, f1, f2, f3, f4, f5⟩ := hf it (by simp)
    exact wpAny_pyNext_enum_endD D he ⟨rfl, hit, hpt⟩ fun h' eb => ⟨rfl, I.turned (t' := s.toks) (fun b o hb q => eb b o hb q) f0 f1 f3 f4 f5⟩
  self := fun A i s Q E st h => let ⟨⟨_, he⟩, _⟩ := st; wpAny_pyIter_enum he h
def iEnumT (K : PySem.W.Frag) (ta : TA) : TI := fun σ H R => ta σ H fun vs H1 => ∃ a xs, vs = [.ref a] ∧ SqT K H1 a xs ∧ R (IteT K a) H1
theorem pi_enumT {X : Cx} {e : Expr} {ta : TA} {p pos tpos : Pos} {elts : List Expr} {kk : Nat} (hg : Gl X "enumerate") (hm : X.mg "enumerate" = none) (ha : PA X [e] ta) (hs : starEach [e] X.env = [(false, eval e X.env)] := by rfl) :
    PI X (.Tuple elts kk tpos) (.Call (.Name "enumerate" p) [e] [] pos) (iEnumT X.K ta) := by
  refine ⟨fun pins s σ H R I h => ?_⟩
  refine Call_ (ld_blt I hg hm boot_enumerate (PyProof.Rows.callWith_type1 (thn (ha.run pos pins s σ H _ I h) fun us s1 ⟨vs, H1, I1, r1, q1⟩ => ?_) hs rfl))
  obtain ⟨a, xs, ex, hq, q⟩ := q1
  subst ex
  cases r1 with
  | cons r rr =>
    cases rr
    obtain rfl := r
    obtain ⟨its, rv, pt, hz⟩ := I1.tuple hq
    have hpt : s1.heap.IsTuple a its.toArray := pt
    refine enum_call1 (begins_tuple a its.toArray) hpt fun g he hit hk => wpAny_pyIter_enum he ?_
    have I2 : Inv X pins σ H1 { s1 with heap := g } := I1.kept (t' := s1.toks) hk
    refine ⟨s1.heap.objs.size + 1, [s1.heap.objs.size + 1, s1.heap.objs.size], _, _, H1, rfl, I2, turn_enumT a (s1.heap.objs.size + 1) s1.heap.objs.size, ⟨⟨.none, he⟩, ⟨_, hit, rfl, rfl⟩, Nat.succ_ne_self _⟩, fun b hb => ?_, q⟩
    have hle : s1.heap.objs.size ≤ b := by
      rcases (show b = s1.heap.objs.size + 1 ∨ b = s1.heap.objs.size by simpa using hb) with z | z
      · rw [z]; exact Nat.le_succ _
      · rw [z]; exact Nat.le_refl _
    exact I1.fpOk hle (I1.hok.fresh hle)
/-- enumerate over a tuple laid down -/
def enuTI (fa : M (List T)) : M (List T) := fun τ => (fa τ).bind fun p => match p.1 with
  | [.tup ds] => some (enuT 0 ds, p.2)
  | _ => none
theorem i_enumT {X : Cx} {e : Expr} {ta : TA} {fa : M (List T)} {p pos tpos : Pos} {elts : List Expr} {kk : Nat} (hg : Gl X "enumerate") (hm : X.mg "enumerate" = none) (ha : EAV X [e] ta fa) (hs : starEach [e] X.env = [(false, eval e X.env)] := by rfl) :
    EI X (.Tuple elts kk tpos) (.Call (.Name "enumerate" p) [e] [] pos) (iEnumT X.K ta) (enuTI fa) := by
  refine ⟨pi_enumT hg hm ha.pe hs, ?_⟩
  intro τ τ' ds σ H F R ee k c
  unfold enuTI at ee
  obtain ⟨q, h1, ee⟩ := Option.bind_eq_some_iff.mp ee
  split at ee
  · rename_i es hq
    cases ee
    refine ha.s τ q.2 q.1 σ H F _ h1 k fun vs H1 F1 k1 s1 r1 => ?_
    rw [hq] at r1
    cases r1 with
    | cons a b =>
      cases b
      cases a with
      | tup hF ra =>
        rename_i aa ws
        refine ⟨aa, ws, rfl, SqT.of (k1.sub _ _ hF), c _ H1 F1 k1 s1 ⟨fun H2 s2 => ⟨ws, SqT.of (s2 _ _ hF), by rw [enuT_length, ra.length]; exact Nat.le_refl _⟩, fun i d H2 F2 hi s2 s3 => ?_⟩⟩
        rw [enuT_get] at hi
        obtain ⟨d', hd, rfl⟩ := Option.map_eq_some_iff.mp hi
        obtain ⟨v, hv, rv⟩ := ra.get hd
        have hq2 : SqT X.K H2 aa ws := SqT.of (s3 _ _ (s2 _ _ hF))
        refine ⟨⟨ws, v, hq2, hv⟩, fun x H3 y => ?_⟩
        obtain ⟨T', x', rfl, hT, rfl, hx⟩ := y
        have hx' := hx ws hq2
        rw [hv] at hx'
        cases hx'
        have g := Grow.upd (o := .tup [.int (i : Nat), v]) s3 hT
        refine ⟨_, g, .tup upd_same (.cons ?_ (.one (rv.mono (s2.trans g.ff))))⟩
        rw [Nat.zero_add]
        exact .int _
  · cases ee
@[simp] theorem ev_enuTI {τ : Sls} {fa : M (List T)} : enuTI fa τ = (fa τ).bind fun p => match p.1 with
  | [.tup ds] => some (enuT 0 ds, p.2)
  | _ => none := id rfl
end TR

namespace TR
open PySem L2 PyProof.Rows PyProof.V

/-! ### sum of a tuple -/
def rSumA (K : PySem.W.Frag) : List V → Hp → VK → Prop := fun vs H Q => ∃ (a : Addr) (ns : List Int), vs = [V.ref a] ∧ SqT K H a (ns.map V.int) ∧ Q (.int ns.sum) H
theorem cr_sumT {X : Cx} (hc : X.calm = true) : CallR X (.builtin "sum") (rSumA X.K) := by
  intro pins s σ H vs us Q I r h
  obtain ⟨a, ns, rfl, hs, q⟩ := h
  obtain ⟨its, rv, hl, _⟩ := I.tuple hs
  rw [Vals.ref1 r]
  have hi : PyProof.Rows.IntsAre its ns := rv.ints
  obtain ⟨xs, e⟩ := hi.allInts.items
  have hn : numsOf (intItems xs).toList = ns := by
    rw [← e]
    exact hi.numsOf
  rw [nums_intItems] at hn
  have hl2 : s.heap.IsTuple a its.toArray := hl
  rw [e] at hl2
  refine PySem.W.ktm_sumG (I.ok.hd hc) hl2 fun h' tk t' hk => ?_
  refine ⟨.int _, H, I.kept hk, ⟨_, rfl⟩, ?_⟩
  rw [preSum_eq, List.take_of_length_le (by simp), hn]
  exact q
def sumA (as : List T) : Option R := match as with
  | [.tup ds] => (intsOf ds).map fun ns => ri ns.sum
  | as => sumG as
theorem s_sumA {K : PySem.W.Frag} : RLS K (fun xs H Q => rSum K xs H Q ∨ rSumA K xs H Q) sumA := by
  intro xs as res F H Q e s l c
  unfold sumA at e
  split at e
  · rename_i ds
    obtain ⟨ns, h1, e⟩ := Option.map_eq_some_iff.mp e
    cases e
    obtain ⟨x, rfl, y⟩ := l.one
    obtain ⟨p, vs, rfl, hp, ap⟩ := y.tup s
    refine .inr ⟨p, ns, rfl, ?_, here s (.int _) c⟩
    rw [← intsOf_rp h1 ap]
    exact SqT.of hp
  · exact .inl (s_sum xs _ res F H Q e s l c)
theorem cr_sumA {X : Cx} (hc : X.calm = true) : CallR X (.builtin "sum") (fun xs H Q => rSum X.K xs H Q ∨ rSumA X.K xs H Q) := CallR.or (cr_sum hc) (cr_sumT hc)

/-! ### max, min of a tuple of ints -/
theorem ints_reads {h : Heap} : ∀ {its : List Value} {ns : List Int}, Vals (ns.map V.int) its → ReadsAll h its (ns.map PyData.int) []
  | _, [], .nil => .nil
  | _, n :: r, .cons a b => by
    obtain ⟨t, rfl⟩ := a
    exact .cons (.int n t) (ints_reads b)
theorem ints_alike (ns : List Int) : PySem.W.AlikeAll (ns.map PyData.int) := by
  refine ⟨fun x hx y hy => ?_, fun x hx => ?_⟩
  · obtain ⟨a, _, rfl⟩ := List.mem_map.mp hx
    obtain ⟨b, _, rfl⟩ := List.mem_map.mp hy
    rfl
  · obtain ⟨a, _, rfl⟩ := List.mem_map.mp hx
    exact nofun
theorem ints_depth : ∀ ns : List Int, PyData.depthAll (ns.map PyData.int) = 0
  | [] => rfl
  | n :: r => by
    show max (PyData.depth (.int n)) (PyData.depthAll (r.map PyData.int)) = 0
    rw [ints_depth r]
    rfl
def rMaxA (K : PySem.W.Frag) : List V → Hp → VK → Prop := fun vs H Q => ∃ (a : Addr) (n : Int) (ns : List Int), vs = [V.ref a] ∧ SqT K H a ((n :: ns).map V.int) ∧ Q (.int (ns.foldl max n)) H
def rMinA (K : PySem.W.Frag) : List V → Hp → VK → Prop := fun vs H Q => ∃ (a : Addr) (n : Int) (ns : List Int), vs = [V.ref a] ∧ SqT K H a ((n :: ns).map V.int) ∧ Q (.int (ns.foldl min n)) H
theorem cr_maxT {X : Cx} (hc : X.calm = true) (hu : X.A.units + 64 < cLine) : CallR X (.builtin "max") (rMaxA X.K) := by
  intro pins s σ H vs us Q I r h
  obtain ⟨a, n, ns, rfl, hs, q⟩ := h
  obtain ⟨its, rv, hl, _⟩ := I.tuple hs
  rw [Vals.ref1 r]
  have hl2 : s.heap.IsTuple a its.toArray := hl
  refine PySem.W.max_tuple_data (x := .int n) (xs := ns.map PyData.int) (I.ok.hd hc) hl2 (ints_reads (ns := n :: ns) rv) (ints_alike (n :: ns)) (by have := ints_depth (n :: ns); rw [List.map_cons] at this; rw [this]; omega) fun i v h' tk bs hv rd hk => ?_
  rw [PySem.W.maxD_ints] at rd
  cases rd with
  | int i t => exact ⟨.int _, H, I.kept hk, ⟨_, rfl⟩, q⟩
theorem cr_minT {X : Cx} (hc : X.calm = true) (hu : X.A.units + 64 < cLine) : CallR X (.builtin "min") (rMinA X.K) := by
  intro pins s σ H vs us Q I r h
  obtain ⟨a, n, ns, rfl, hs, q⟩ := h
  obtain ⟨its, rv, hl, _⟩ := I.tuple hs
  rw [Vals.ref1 r]
  have hl2 : s.heap.IsTuple a its.toArray := hl
  refine PySem.W.min_tuple_data (x := .int n) (xs := ns.map PyData.int) (I.ok.hd hc) hl2 (ints_reads (ns := n :: ns) rv) (ints_alike (n :: ns)) (by have := ints_depth (n :: ns); rw [List.map_cons] at this; rw [this]; omega) fun i v h' tk bs hv rd hk => ?_
  rw [PySem.W.minD_ints] at rd
  cases rd with
  | int i t => exact ⟨.int _, H, I.kept hk, ⟨_, rfl⟩, q⟩
def maxA (as : List T) : Option R := match as with
  | [.tup ds] => (intsOf ds).bind fun ns => match ns with
    | n :: r => some (ri (r.foldl max n))
    | [] => none
  | as => maxG as
def minA (as : List T) : Option R := match as with
  | [.tup ds] => (intsOf ds).bind fun ns => match ns with
    | n :: r => some (ri (r.foldl min n))
    | [] => none
  | as => minG as
theorem s_maxA {K : PySem.W.Frag} : RLS K (fun xs H Q => rMax K xs H Q ∨ rMaxA K xs H Q) maxA := by
  intro xs as res F H Q e s l c
  unfold maxA at e
  split at e
  · rename_i ds
    obtain ⟨ns, h1, e⟩ := Option.bind_eq_some_iff.mp e
    split at e
    · rename_i n r
      cases e
      obtain ⟨x, rfl, y⟩ := l.one
      obtain ⟨p, vs, rfl, hp, ap⟩ := y.tup s
      refine .inr ⟨p, n, r, rfl, ?_, here s (.int _) c⟩
      rw [← intsOf_rp h1 ap]
      exact SqT.of hp
    · cases e
  · exact .inl (s_max xs _ res F H Q e s l c)
theorem s_minA {K : PySem.W.Frag} : RLS K (fun xs H Q => rMin K xs H Q ∨ rMinA K xs H Q) minA := by
  intro xs as res F H Q e s l c
  unfold minA at e
  split at e
  · rename_i ds
    obtain ⟨ns, h1, e⟩ := Option.bind_eq_some_iff.mp e
    split at e
    · rename_i n r
      cases e
      obtain ⟨x, rfl, y⟩ := l.one
      obtain ⟨p, vs, rfl, hp, ap⟩ := y.tup s
      refine .inr ⟨p, n, r, rfl, ?_, here s (.int _) c⟩
      rw [← intsOf_rp h1 ap]
      exact SqT.of hp
    · cases e
  · exact .inl (s_min xs _ res F H Q e s l c)
theorem cr_maxA {X : Cx} (hc : X.calm = true) (hu : X.A.units + 64 < cLine) : CallR X (.builtin "max") (fun xs H Q => rMax X.K xs H Q ∨ rMaxA X.K xs H Q) := CallR.or (cr_max hc) (cr_maxT hc hu)
theorem cr_minA {X : Cx} (hc : X.calm = true) (hu : X.A.units + 64 < cLine) : CallR X (.builtin "min") (fun xs H Q => rMin X.K xs H Q ∨ rMinA X.K xs H Q) := CallR.or (cr_min hc) (cr_minT hc hu)
end TR

namespace TR
open PySem L2 PyProof.Rows PyProof.V

/-! ### min of a list of alike data -/
def minT (d : T) (r : List T) : T := r.foldl (fun a y => if PySem.W.dataLt y.toD a.toD = true then y else a) d
theorem minT_toD : ∀ (r : List T) (d : T), (minT d r).toD = PySem.W.minD d.toD (r.map T.toD)
  | [], d => rfl
  | y :: r, d => by
    show (minT (if PySem.W.dataLt y.toD d.toD = true then y else d) r).toD = PySem.W.minD (if PySem.W.dataLt y.toD d.toD = true then y.toD else d.toD) (r.map T.toD)
    rw [minT_toD r]
    split <;> rfl
theorem minT_mem : ∀ (r : List T) (d : T), minT d r ∈ d :: r
  | [], d => by simp [minT]
  | y :: r, d => by
    have ih := minT_mem r (if PySem.W.dataLt y.toD d.toD = true then y else d)
    show minT (if PySem.W.dataLt y.toD d.toD = true then y else d) r ∈ d :: y :: r
    rcases List.mem_cons.mp ih with h | h
    · rw [h]
      split <;> simp
    · simp [h]
def isInt : T → Bool
  | .int _ => true
  | _ => false
/-- tuples of ints -/
def isTI : T → Bool
  | .tup xs => xs.all isInt
  | _ => false
theorem ints_inj : ∀ (xs ys : List T), xs.all isInt = true → ys.all isInt = true → toDA xs = toDA ys → xs = ys
  | [], [], _, _, _ => rfl
  | [], y :: ys, _, _, h => by cases h
  | x :: xs, [], _, _, h => by cases h
  | x :: xs, y :: ys, h1, h2, h => by
    rw [List.all_cons, Bool.and_eq_true] at h1 h2
    have e1 : x.toD = y.toD := by
      have := congrArg (fun l => l.head?) h
      exact Option.some.inj this
    have e2 : toDA xs = toDA ys := by
      have := congrArg (fun l => l.tail) h
      exact this
    rw [ints_inj xs ys h1.2 h2.2 e2]
    congr 1
    cases x with
    | int i =>
      cases y with
      | int j =>
        have e3 : PyData.int i = .int j := e1
        cases e3
        rfl
      | _ => cases h2.1
    | _ => cases h1.1
theorem ti_inj {a b : T} (ha : isTI a = true) (hb : isTI b = true) (h : a.toD = b.toD) : a = b := by
  cases a with
  | tup xs =>
    cases b with
    | tup ys =>
      have e : PyData.tuple (toDA xs) = .tuple (toDA ys) := h
      have e2 : toDA xs = toDA ys := by
        injection e
      rw [ints_inj xs ys ha hb e2]
    | _ => cases hb
  | _ => cases ha
theorem vals_at : ∀ {vs : List V} {us : List Value} {i : Nat} {u : Value}, Vals vs us → us[i]? = some u → ∃ v, vs[i]? = some v ∧ RelV v u
  | _, _, _, _, .nil, h => by simp at h
  | _, _, 0, _, .cons a _, h => by simp at h; subst h; exact ⟨_, rfl, a⟩
  | _, _, i + 1, u, .cons _ b, h => by
    obtain ⟨v, h1, h2⟩ := vals_at (i := i) (u := u) b (by simpa using h)
    exact ⟨v, by simpa using h1, h2⟩
theorem dp_at {K : PySem.W.Frag} {H : Hp} : ∀ {vs : List V} {ds : List PyData} {i : Nat} {v : V}, DpAll K H vs ds → vs[i]? = some v → ∃ d, ds[i]? = some d ∧ Dp K H v d
  | _, _, _, _, .nil, h => by simp at h
  | _, _, 0, _, .cons a _, h => by simp at h; subst h; exact ⟨_, rfl, a⟩
  | _, _, i + 1, v, .cons _ b, h => by
    obtain ⟨d, h1, h2⟩ := dp_at (i := i) (v := v) b (by simpa using h)
    exact ⟨d, by simpa using h1, h2⟩
def rMinDt (K : PySem.W.Frag) : List V → Hp → VK → Prop := fun xs H Q => ∃ (a : Addr) (vs : List V) (d0 : T) (dr : List T), xs = [.ref a] ∧ SqL K H a vs ∧ DpAll K H vs (toDA (d0 :: dr)) ∧ PySem.W.AlikeAll (toDA (d0 :: dr)) ∧ PyData.depthAll (toDA (d0 :: dr)) ≤ 62 ∧
  ∀ (i : Nat) (v : V) (d : PyData), vs[i]? = some v → (toDA (d0 :: dr))[i]? = some d → d = (minT d0 dr).toD → Q v H
theorem cr_minDt {X : Cx} (hc : X.calm = true) (hu : X.A.units + 64 < cLine) : CallR X (.builtin "min") (rMinDt X.K) := by
  intro pins s σ H xs us Q I r h
  obtain ⟨a, vs, d0, dr, rfl, hs, hd, al, dpt, q⟩ := h
  obtain ⟨its, rv, hl, _⟩ := I.list hs
  rw [Vals.ref1 r]
  obtain ⟨as, hr⟩ := Dp.readsAll I _ _ _ hd rv
  refine PySem.W.min_list_data (x := d0.toD) (xs := toDA dr) (I.ok.hd hc) hl.isList hr al (by have : PyData.depthAll (d0.toD :: toDA dr) ≤ 62 := dpt; omega) fun i v h' tk bs hv rd hk => ?_
  obtain ⟨x, hx, rx⟩ := vals_at rv (i := i) (u := v) (by simpa using hv)
  obtain ⟨d, hdi, hdp⟩ := dp_at hd hx
  obtain ⟨cs, hrd⟩ := Dp.reads I _ _ _ hdp rx
  have hrd2 := PySem.W.reads_keeps hk hrd
  have e : d = (minT d0 dr).toD := by
    rw [minT_toD, ← toDA_map]
    exact (Reads.unique hrd2 _ _ rd).1
  exact ⟨x, H, I.kept hk, rx, q i x d hx hdi e⟩
def minOk (ds : List T) : Bool := ds.all isTI && (layA ds && (Nat.ble (depA ds) 60 && ds.all fun a => ds.all fun b => PySem.W.alike a.toD b.toD))
def minB (as : List T) : Option R := match as with
  | [.lst (d :: r)] => if minOk (d :: r) = true then some ⟨minT d r, false⟩ else minA as
  | as => minA as
theorem s_minB {K : PySem.W.Frag} : RLS K (fun xs H Q => (rMin K xs H Q ∨ rMinA K xs H Q) ∨ rMinDt K xs H Q) minB := by
  intro xs as res F H Q e s l c
  unfold minB at e
  split at e
  · rename_i d r
    split at e
    · rename_i ok
      cases e
      obtain ⟨x, rfl, y⟩ := l.one
      obtain ⟨p, vs, rfl, hp, ap⟩ := y.lst s
      unfold minOk at ok
      simp only [Bool.and_eq_true, List.all_eq_true] at ok
      obtain ⟨o1, o2, o3, o4⟩ := ok
      have dpt : PyData.depthAll (toDA (d :: r)) ≤ 62 := by
        have h1 := Nat.le_of_ble_eq_true o3
        have h2 : PyData.depthAll (toDA (d :: r)) = depA (d :: r) := dep_toDA _
        omega
      refine .inr ⟨p, vs, d, r, rfl, SqL.of hp, (ap.mono s).dp o2, ⟨fun a ha b hb => ?_, fun a ha => ?_⟩, dpt, fun i v dd hv hd hq => ?_⟩
      · rw [toDA_map] at ha hb
        obtain ⟨a', ha', rfl⟩ := List.mem_map.mp ha
        obtain ⟨b', hb', rfl⟩ := List.mem_map.mp hb
        exact o4 a' ha' b' hb'
      · rw [toDA_map] at ha
        obtain ⟨a', ha', rfl⟩ := List.mem_map.mp ha
        have := o1 a' ha'
        cases a' with
        | tup xs => exact nofun
        | _ => cases this
      · obtain ⟨t, ht, rt⟩ := ap.getV hv
        rw [toDA_map, List.getElem?_map, ht] at hd
        cases hd
        have em : t = minT d r := ti_inj (o1 t (List.mem_of_getElem? ht)) (o1 _ (minT_mem r d)) hq
        subst em
        exact here s rt c
    · exact .inl (s_minA xs _ res F H Q e s l c)
  · exact .inl (s_minA xs _ res F H Q e s l c)
theorem cr_minB {X : Cx} (hc : X.calm = true) (hu : X.A.units + 64 < cLine) : CallR X (.builtin "min") (fun xs H Q => (rMin X.K xs H Q ∨ rMinA X.K xs H Q) ∨ rMinDt X.K xs H Q) := CallR.or (cr_minA hc hu) (cr_minDt hc hu)
end TR

namespace TR
open PySem L2 PyProof.Rows PyProof.V

/-! ### t[::-1] of a tuple -/
section
variable {prog : Program} {w : World} {A : Around} {E : Value → Shared → Prop} {s : Shared}
theorem applied_back {sl : Addr} {u : Tok} {n : Nat} {Q : Int × Int × Nat → Shared → Prop} (hs : s.heap.IsSliceOf sl .none .none (.int (-1) u)) (h : Q ((n : Int) - 1, -1, n) s) :
    wpAny (model prog w) A (Builtin.Slice.sliceApplied (.ref sl) (pure (n : Int))) Q E s := by
  obtain ⟨ob, hob, hcb, hdb⟩ := id hs
  unfold Builtin.Slice.sliceApplied; unfold Builtin.Slice.sliceFields
  refine wpAny_bind (wpAny_bind (wpAny_field hob hdb (x := .none) rfl (wpAny_bind (wpAny_field hob hdb (x := .none) rfl (wpAny_bind (wpAny_field hob hdb (x := .int (-1) u) rfl (wpAny_pure ?_)))))))
  refine wpAny_bind (slicePart_int ?_)
  show wpAny _ _ (if ((-1 : Int) == 0) = true then _ else _) _ _ s
  rw [if_neg (by decide)]
  refine wpAny_bind (slicePart_none (wpAny_bind (slicePart_none (wpAny_bind (wpAny_pure ?_)))))
  show wpAny _ _ (match Builtin.Slice.sliceAdjust none none (-1) (n : Int) with | (lo, hi) => pure (lo, (-1 : Int), Builtin.Slice.slicePlaces lo hi (-1))) _ _ s
  have e1 : Builtin.Slice.sliceAdjust none none (-1) (n : Int) = ((n : Int) - 1, -1) := by
    unfold Builtin.Slice.sliceAdjust
    simp
  have e2 : Builtin.Slice.slicePlaces ((n : Int) - 1) (-1) (-1) = n := by
    unfold Builtin.Slice.slicePlaces
    simp
    omega
  rw [e1]
  show wpAny _ _ (pure ((n : Int) - 1, (-1 : Int), Builtin.Slice.slicePlaces ((n : Int) - 1) (-1) (-1))) _ _ s
  rw [e2]
  exact wpAny_pure h
theorem pick_back (xs : Array Value) : ((List.range xs.size).filterMap fun (m : Nat) => xs[(((xs.size : Int) - 1) + (m : Int) * (-1)).toNat]?) = xs.toList.reverse := by
  have h1 : ((List.range xs.size).filterMap fun (m : Nat) => xs[(((xs.size : Int) - 1) + (m : Int) * (-1)).toNat]?) = ((List.range xs.size).map fun k => xs.size - 1 - k).filterMap (xs[·]?) := by
    rw [List.filterMap_map]
    congr 1
    funext m
    show xs[(((xs.size : Int) - 1) + (m : Int) * (-1)).toNat]? = xs[xs.size - 1 - m]?
    by_cases h : xs.size = 0
    · have e : ∀ j : Nat, xs[j]? = none := fun j => Array.getElem?_eq_none (by omega)
      rw [e, e]
    · congr 1
      omega
  rw [h1, PySem.W.krv_range, List.filterMap_reverse, PySem.W.krv_all]
theorem getItem_back {t sl : Addr} {items : Array Value} {u : Tok} {Q : Value → Shared → Prop} (ht : IsTup s.heap t items) (hs : s.heap.IsSliceOf sl .none .none (.int (-1) u))
    (h : Q (.ref s.heap.objs.size) { s with heap := s.heap.push { cls := .type "tuple", data := .seq items.toList.reverse.toArray } }) (hz : items.size ≤ sizeLine) : wpAny (model prog w) A (getItem (.ref t) (.ref sl)) Q E s := by
  have ok : sizeOk (.seq items.toList.reverse.toArray) := by
    show items.toList.reverse.toArray.size ≤ sizeLine
    rw [List.size_toArray, List.length_reverse, Array.length_toList]
    exact hz
  obtain ⟨ob, hob, hcb, hdb⟩ := id hs
  have hT : s.TypeIs (.ref sl) "slice" := ⟨ob, hob, hcb⟩
  unfold getItem
  try (with_reducible refine wpAny_holding ?_)
  try refine wpAny_bind (wpAny_pure ?_)
  refine wpAny_bind (wpAny_sequenceKey ht.typeIs (by decide) (wpAny_bind ?_))
  refine (wpAny_callSpecial?_slot (name := Str.ofString "__getitem__") ht.typeIs PyProof.Rows.slot_tuple_getitem (wpAny_call_entry PyProof.Rows.slot_tuple_getitem ht.typeIs entry_tuple_getitem ?_ (args_tuple_getitem _ _)))
  show wpAny _ _ (Builtin.Tuple.tupleItemsOf (.ref t) >>= _) _ _ _
  refine wpAny_bind (tupleItemsOf_ ht (wpAny_bind (wpAny_typeOf hT ?_)))
  rw [if_pos (by decide)]
  refine wpAny_bind (applied_back hs ?_)
  show wpAny _ _ (if (((items.size : Int) - 1) == 0 && (-1 : Int) == 1 && items.size == items.size) = true then _ else _) _ _ s
  rw [if_neg (by simp), pick_back]
  first
    | exact wpAny_bind (m := Builtin.Tuple.tupleExact _) (wpAny_newObj_type (wpAny_pure ⟨_, rfl, wpAny_pure h⟩) ok)
    | exact wpAny_bind (m := Builtin.Tuple.tupleExact _) (wpAny_newObj_type (wpAny_bind (wpAny_pure (wpAny_pure ⟨_, rfl, wpAny_pure h⟩))) ok)
    | exact wpAny_bind (wpAny_bind (m := Builtin.Tuple.tupleExact _) (wpAny_newObj_type (wpAny_pure (wpAny_pure ⟨_, rfl, wpAny_pure h⟩)) ok))
    | exact wpAny_bind (wpAny_bind (m := Builtin.Tuple.tupleExact _) (wpAny_newObj_type (wpAny_pure ⟨_, rfl, wpAny_pure h⟩) ok))
end
section
variable {X : Cx} {pos : Pos}
def tRevA (K : PySem.W.Frag) (te : TE) : TE := fun σ H Q => te σ H fun x H1 => ∃ a xs, x = .ref a ∧ SqT K H1 a xs ∧ ∀ p, H1 p = none → Q (.ref p) (upd H1 p (.tup xs.reverse))
theorem pe_revA {e : Expr} {te : TE} {k : Nat} {p1 p2 p3 : Pos} (he : PE X e te) : PE X (.Subscript e (.Slice none none (some (.UnaryOp .USub (.Constant (.int 1) k p1) p2)) p3) pos) (tRevA X.K te) := by
  refine ⟨fun pins s σ H Q I h => Subscript_ (thn (he.run pins s σ H _ I h) fun v s1 ⟨x, H1, I1, r1, q1⟩ => ?_)⟩
  obtain ⟨a, xs, ex, hx, q⟩ := q1
  subst ex
  cases r1
  have st : PO X (some (.UnaryOp .USub (.Constant (.int 1) k p1) p2)) (tPart (tUn (rU fun i => .int (-i)) (tC (.int 1)))) := po_some (pe_un un_neg pe_int)
  refine wpAny_Slice (thn (po_none.run pins s1 σ H1 (fun o G => o = none ∧ G = H1) I1 ⟨rfl, rfl⟩) fun vl s2 ⟨l, G2, I2, pl, el, g2⟩ => ?_)
  subst el g2
  refine thn (po_none.run pins s2 σ G2 (fun o G => o = none ∧ G = G2) I2 ⟨rfl, rfl⟩) fun vu s3 ⟨l3, G3, I3, pu, eu, g3⟩ => ?_
  subst eu g3
  refine thn (st.run pins s3 σ G3 (fun o G => o = some (-1) ∧ G = G3) I3 ⟨1, rfl, -1, rfl, rfl, rfl⟩) fun vs s4 ⟨o, G4, I4, ps, eo, g4⟩ => ?_
  subst eo g4
  cases pl
  cases pu
  cases ps with
  | int i u =>
    have I5 : Inv X pins σ G4 { s4 with heap := s4.heap.push { cls := .type "slice", data := .fields #[.none, .none, .int (-1) u] } } := I4.kept (t' := s4.toks) fun b ob z => Heap.get?_push_of_some _ z
    obtain ⟨its, r, ht, hz⟩ := I5.tuple hx
    have hlen := r.length
    show wpAny (model X.prog X.w) X.A (subscriptTail e (.Slice none none (some (.UnaryOp .USub (.Constant (.int 1) k p1) p2)) p3) (.ref a) (.ref s4.heap.objs.size)) (L2.EP X pins σ Q) X.xe { s4 with heap := s4.heap.push { cls := .type "slice", data := .fields #[.none, .none, .int (-1) u] } }
    refine tail_any (ops := [.ref a, .ref s4.heap.objs.size]) ht.typeIs PyProof.Rows.slot_tuple_getitem.lookup ?_ (by with_unfolding_all rfl)
    refine getItem_back ht (Heap.IsSliceOf.new _ .none .none (.int (-1) u)) ?_ (by rw [List.size_toArray]; omega)
    refine ⟨.ref _, _, I5.laid (t' := s4.toks) (o := .tup xs.reverse) (fun b ob z => Heap.get?_push_of_some _ z) (Nat.le_refl _) ?_, rfl, q _ (I5.hok.fresh (Nat.le_refl _))⟩
    exact ⟨by rw [List.length_reverse]; exact hz, _, r.reverse, ⟨_, Heap.get?_push_size _ rfl, rfl, _, rfl⟩⟩
end
def revB (a : T) : Option R := match a with
  | .tup ds => some ⟨.tup ds.reverse, false⟩
  | a => revG a
theorem e_revB {X : Cx} {e : Expr} {te : TE} {pos : Pos} {fa : M (Sls → Option T)} {k : Nat} {p1 p2 p3 : Pos} (ha : EO X e te fa) :
    EE X (.Subscript e (.Slice none none (some (.UnaryOp .USub (.Constant (.int 1) k p1) p2)) p3) pos) (fun σ H Q => tRevL X.K te σ H Q ∨ tRevA X.K te σ H Q) (unE revB fa) := by
  refine ⟨⟨fun pins s σ H Q I h => h.elim ((pe_revL ha.pe).run pins s σ H Q I) ((pe_revA ha.pe).run pins s σ H Q I)⟩, ?_⟩
  intro τ τ' res σ H F Q e k c
  unfold unE at e
  obtain ⟨p, h1, e⟩ := Option.bind_eq_some_iff.mp e
  obtain ⟨x, h3, e⟩ := Option.bind_eq_some_iff.mp e
  obtain ⟨z, h5, e⟩ := Option.map_eq_some_iff.mp e
  cases e
  unfold revB at h5
  split at h5
  · rename_i ds
    cases h5
    refine .inr (ha.s τ p.2 p.1 σ H F _ h1 k fun v H1 F1 k1 s1 l1 => ?_)
    obtain ⟨aa, vs, rfl, hs, ra⟩ := (l1 _ _ _ _ k1 .refl h3).tup k1.sub
    refine ⟨aa, vs, rfl, SqT.of hs, fun q hq => ?_⟩
    exact new_tup k1.sub hq ra.reverse fun v H' F' g ro => c v H' F' (k1.grow g) (s1.trans g.step) ((ro.ok k1 g).back s1)
  · unfold revG at h5
    obtain ⟨ds, h6, h5⟩ := Option.map_eq_some_iff.mp h5
    subst h5
    refine .inl (ha.s τ p.2 p.1 σ H F _ h1 k fun v H1 F1 k1 s1 l1 => ?_)
    obtain ⟨aa, vs, rfl, hs, ra⟩ := (l1 _ _ _ _ k1 .refl h3).seqL k1.sub h6
    refine ⟨aa, vs, rfl, hs, fun q hq => ?_⟩
    exact new_lst k1.sub hq ra.reverse fun v H' F' g ro => c v H' F' (k1.grow g) (s1.trans g.step) ((ro.ok k1 g).back s1)
end TR

namespace TR
open PySem L2

/-! ### slots whose kind is not known -/
structure Hd (s : Sl) (d : T) : Prop where
  v : valS s = some d
  sl : slT (some s) = some d
  ln : s.isLn = false
theorem Hd.fr {d : T} : Hd (.fr d) d := ⟨rfl, rfl, rfl⟩
theorem Hd.ow {d : T} : Hd (.ow d) d := ⟨rfl, rfl, rfl⟩

/-! ### loops -/
theorem lcL_mapE {α : Type} {g : T → Sls → Option Sls} {cnd : M Bool} {elt : M T} {own : List Nat} {τ : Sls} (e f : α → T) : ∀ xs : List α, (∀ x ∈ xs, lcOne g cnd elt own (e x) τ = some (some (f x), τ)) → lcL g cnd elt own (xs.map e) τ = some (xs.map f, τ)
  | [], _ => rfl
  | x :: r, h => by
    rw [List.map_cons, lcL_one (h x (by simp)), lcL_mapE e f r fun y hy => h y (by simp [hy])]
    rfl
theorem lcL_filE {α : Type} {g : T → Sls → Option Sls} {cnd : M Bool} {elt : M T} {own : List Nat} {τ : Sls} (e f : α → T) (p : α → Bool) : ∀ xs : List α, (∀ x ∈ xs, lcOne g cnd elt own (e x) τ = some (if p x = true then some (f x) else none, τ)) → lcL g cnd elt own (xs.map e) τ = some ((xs.filter p).map f, τ)
  | [], _ => rfl
  | x :: r, h => by
    rw [List.map_cons, lcL_one (h x (by simp)), lcL_filE e f p r fun y hy => h y (by simp [hy])]
    cases hp : p x <;> simp [hp]
theorem lcL_relE {α : Type} {g : T → Sls → Option Sls} {cnd : M Bool} {elt : M T} {own : List Nat} (R : Sls → Prop) (e f : α → T) : ∀ xs : List α, (∀ x ∈ xs, ∀ τ, R τ → ∃ τ', lcOne g cnd elt own (e x) τ = some (some (f x), τ') ∧ R τ') → ∀ τ, R τ → ∃ τ', lcL g cnd elt own (xs.map e) τ = some (xs.map f, τ') ∧ R τ'
  | [], _, τ, hR => ⟨τ, rfl, hR⟩
  | x :: r, h, τ, hR => by
    obtain ⟨τ1, h1, h2⟩ := h x (by simp) τ hR
    obtain ⟨τ2, h3, h4⟩ := lcL_relE R e f r (fun y hy => h y (by simp [hy])) τ1 h2
    exact ⟨τ2, by rw [List.map_cons, lcL_one h1, h3]; rfl, h4⟩
theorem lcL_filR {α : Type} {g : T → Sls → Option Sls} {cnd : M Bool} {elt : M T} {own : List Nat} (R : Sls → Prop) (e f : α → T) (p : α → Bool) : ∀ xs : List α, (∀ x ∈ xs, ∀ τ, R τ → ∃ τ', lcOne g cnd elt own (e x) τ = some (if p x = true then some (f x) else none, τ') ∧ R τ') → ∀ τ, R τ → ∃ τ', lcL g cnd elt own (xs.map e) τ = some ((xs.filter p).map f, τ') ∧ R τ'
  | [], _, τ, hR => ⟨τ, rfl, hR⟩
  | x :: r, h, τ, hR => by
    obtain ⟨τ1, h1, h2⟩ := h x (by simp) τ hR
    obtain ⟨τ2, h3, h4⟩ := lcL_filR R e f p r (fun y hy => h y (by simp [hy])) τ1 h2
    refine ⟨τ2, ?_, h4⟩
    rw [List.map_cons, lcL_one h1, h3]
    cases hp : p x <;> simp [hp]
/-- .. each item with some property -/
theorem lcL_exE {α β : Type} {g : T → Sls → Option Sls} {cnd : M Bool} {elt : M T} {own : List Nat} (R : Sls → Prop) (e : α → T) (f : β → T) (P : α → β → Prop) : ∀ xs : List α, (∀ x ∈ xs, ∀ τ, R τ → ∃ y τ', lcOne g cnd elt own (e x) τ = some (some (f y), τ') ∧ R τ' ∧ P x y) → ∀ τ, R τ →
    ∃ (ys : List β) (τ' : Sls), lcL g cnd elt own (xs.map e) τ = some (ys.map f, τ') ∧ R τ' ∧ ys.length = xs.length ∧ ∀ (i : Nat) (x : α) (y : β), xs[i]? = some x → ys[i]? = some y → P x y
  | [], _, τ, hR => ⟨[], τ, rfl, hR, rfl, fun i x y h => by simp at h⟩
  | x :: r, h, τ, hR => by
    obtain ⟨y, τ1, h1, h2, h3⟩ := h x (by simp) τ hR
    obtain ⟨ys, τ2, h4, h5, h6, h7⟩ := lcL_exE R e f P r (fun y hy => h y (by simp [hy])) τ1 h2
    refine ⟨y :: ys, τ2, by rw [List.map_cons, lcL_one h1, h4]; rfl, h5, by simp [h6], fun i x' y' e1 e2 => ?_⟩
    cases i with
    | zero => simp at e1 e2; subst e1 e2; exact h3
    | succ i => exact h7 i x' y' (by simpa using e1) (by simpa using e2)
theorem loopS_inv {g : T → Sls → Option Sls} {body : Sls → Option Out} (Inv : Nat → Sls → Prop) : ∀ (ds : List T) (k : Nat), (∀ i d τ, ds[i]? = some d → Inv (k + i) τ → ∃ τ', (g d τ).bind body = some (.nx τ') ∧ Inv (k + i + 1) τ') →
    ∀ τ, Inv k τ → ∃ τ', loopS g body ds τ = some (.nx τ') ∧ Inv (k + ds.length) τ'
  | [], k, _, τ, hR => ⟨τ, rfl, hR⟩
  | d :: r, k, h, τ, hR => by
    obtain ⟨τ1, h1, h2⟩ := h 0 d τ rfl hR
    obtain ⟨τ2, h3, h4⟩ := loopS_inv Inv r (k + 1) (fun i d' τ hd hI => by
      have := h (i + 1) d' τ (by simpa using hd) (by rw [show k + (i + 1) = k + 1 + i by omega]; exact hI)
      rw [show k + (i + 1) + 1 = k + 1 + i + 1 by omega] at this
      exact this) τ1 h2
    obtain ⟨τ0, g1, g2⟩ := Option.bind_eq_some_iff.mp h1
    refine ⟨τ2, ?_, ?_⟩
    · rw [loopS, g1, Option.bind_some, g2]
      exact h3
    · rw [show k + (d :: r).length = k + 1 + r.length by simp; omega]
      exact h4
/-- a loop that ends at the first item of a kind -/
theorem loopS_find {α : Type} {g : T → Sls → Option Sls} {body : Sls → Option Out} (Q Q' : Sls → Prop) (e : α → T) (bad : α → Bool) (r : R) : ∀ (xs : List α),
    (∀ x ∈ xs, ∀ τ, Q τ → (bad x = false → ∃ τ', (g (e x) τ).bind body = some (.nx τ') ∧ Q τ') ∧ (bad x = true → ∃ τ', (g (e x) τ).bind body = some (.rt r τ') ∧ Q' τ')) →
    ∀ τ, Q τ → (xs.any bad = false → ∃ τ', loopS g body (xs.map e) τ = some (.nx τ') ∧ Q τ') ∧ (xs.any bad = true → ∃ τ', loopS g body (xs.map e) τ = some (.rt r τ') ∧ Q' τ')
  | [], _, τ, hR => ⟨fun _ => ⟨τ, rfl, hR⟩, fun h => by simp at h⟩
  | x :: xs, h, τ, hR => by
    obtain ⟨h1, h2⟩ := h x (by simp) τ hR
    cases hb : bad x with
    | true =>
      refine ⟨fun z => by simp [hb] at z, fun _ => ?_⟩
      obtain ⟨τ1, q1, q2⟩ := h2 hb
      obtain ⟨τ0, g1, g2⟩ := Option.bind_eq_some_iff.mp q1
      exact ⟨τ1, by rw [List.map_cons, loopS, g1, Option.bind_some, g2]; rfl, q2⟩
    | false =>
      obtain ⟨τ1, q1, q2⟩ := h1 hb
      obtain ⟨τ0, g1, g2⟩ := Option.bind_eq_some_iff.mp q1
      obtain ⟨i1, i2⟩ := loopS_find Q Q' e bad r xs (fun y hy => h y (by simp [hy])) τ1 q2
      refine ⟨fun z => ?_, fun z => ?_⟩
      · obtain ⟨τ2, j1, j2⟩ := i1 (by simpa [hb] using z)
        exact ⟨τ2, by rw [List.map_cons, loopS, g1, Option.bind_some, g2]; exact j1, j2⟩
      · obtain ⟨τ2, j1, j2⟩ := i2 (by simpa [hb] using z)
        exact ⟨τ2, by rw [List.map_cons, loopS, g1, Option.bind_some, g2]; exact j1, j2⟩

/-! ### what is walked, as maps -/
theorem rngT_map : ∀ (n : Nat) (lo : Int), rngT lo n = (List.range n).map fun i => T.int (lo + (i : Nat))
  | 0, _ => rfl
  | n + 1, lo => by
    rw [rngT, rngT_map n, List.range_succ_eq_map, List.map_cons, List.map_map]
    congr 1
    · simp
    · refine List.map_congr_left fun i _ => ?_
      simp only [Function.comp]
      congr 1
      omega
theorem rngT0 (n : Nat) : rngT 0 n = (List.range n).map fun i => T.int (i : Nat) := by
  rw [rngT_map]
  refine List.map_congr_left fun i _ => ?_
  rw [Int.zero_add]
theorem rngT1 (n : Nat) : rngT 1 n = (List.range n).map fun i => T.int ((i + 1 : Nat) : Int) := by
  rw [rngT_map]
  refine List.map_congr_left fun i _ => ?_
  congr 1
  omega
theorem enuT_map {α : Type} (e : α → T) : ∀ (xs : List α) (k : Nat), enuT k (xs.map e) = (xs.zipIdx k).map fun p => T.tup [.int (p.2 : Nat), e p.1]
  | [], _ => rfl
  | x :: r, k => by
    rw [List.map_cons, enuT, enuT_map e r (k + 1), List.zipIdx_cons, List.map_cons]
theorem rgOk_n (n : Nat) (h : n < 1000000000) : rgOk (n : Int) = true := Nat.ble_eq_true_of_le (by omega)
theorem rgOk_i (n : Int) (h0 : -1000000000 < n) (h : n < 1000000000) : rgOk n = true := Nat.ble_eq_true_of_le (by omega)

/-! ### items -/
theorem atI_nat {α : Type} {xs : List α} {i : Nat} (h : i < xs.length) : atI xs (i : Int) = some xs[i] := by
  unfold atI ixN
  rw [if_pos (by omega), if_pos (by omega), Option.bind_some, Int.toNat_natCast, List.getElem?_eq_getElem h]
theorem atI_int {α : Type} {xs : List α} {i : Int} {k : Nat} (e : i = (k : Int)) (h : k < xs.length) : atI xs i = some xs[k] := by
  subst e
  exact atI_nat h
theorem atI_last {α : Type} {xs : List α} (h : 0 < xs.length) : atI xs (-1) = some xs[xs.length - 1] := by
  unfold atI ixN
  rw [if_neg (by omega), if_pos (by omega), Option.bind_some, ← List.getElem?_eq_getElem]
  congr 1
  omega
theorem ixN_nat {n i : Nat} (h : i < n) : ixN n (i : Int) = some i := by
  unfold ixN
  rw [if_pos (by omega), if_pos (by omega), Int.toNat_natCast]

/-! ### whole numbers and truth values in rows -/
theorem intsOf_mapf {α : Type} (f : α → Int) : ∀ xs : List α, intsOf (xs.map fun x => T.int (f x)) = some (xs.map f)
  | [] => rfl
  | x :: r => by
    show (intsOf (r.map fun x => T.int (f x))).map (f x :: ·) = _
    rw [intsOf_mapf f r]
    rfl
theorem intsOf_map : ∀ ns : List Int, intsOf (ns.map T.int) = some ns
  | [] => rfl
  | n :: r => by
    show (intsOf (r.map T.int)).map (n :: ·) = _
    rw [intsOf_map r]
    rfl
theorem blsOf_mapf {α : Type} (f : α → Bool) : ∀ xs : List α, blsOf (xs.map fun x => T.bl (f x)) = some (xs.map f)
  | [] => rfl
  | x :: r => by
    show (blsOf (r.map fun x => T.bl (f x))).map (f x :: ·) = _
    rw [blsOf_mapf f r]
    rfl
theorem all_lst {α : Type} (f : α → Bool) (xs : List α) : allG [.lst (xs.map fun x => T.bl (f x))] = some ⟨.bl (xs.all f), false⟩ := by
  show ((T.seqL (.lst (xs.map fun x => T.bl (f x)))).bind blsOf).map _ = _
  rw [show T.seqL (.lst (xs.map fun x => T.bl (f x))) = some (xs.map fun x => T.bl (f x)) from rfl, Option.bind_some, blsOf_mapf, Option.map_some, List.all_map]
  rfl
theorem any_lst {α : Type} (f : α → Bool) (xs : List α) : anyG [.lst (xs.map fun x => T.bl (f x))] = some ⟨.bl (xs.any f), false⟩ := by
  show ((T.seqL (.lst (xs.map fun x => T.bl (f x)))).bind blsOf).map _ = _
  rw [show T.seqL (.lst (xs.map fun x => T.bl (f x))) = some (xs.map fun x => T.bl (f x)) from rfl, Option.bind_some, blsOf_mapf, Option.map_some, List.any_map]
  rfl
theorem sum_lst {α : Type} (f : α → Int) (xs : List α) : sumG [.lst (xs.map fun x => T.int (f x))] = some ⟨.int (xs.map f).sum, false⟩ := by
  show ((T.seqL (.lst (xs.map fun x => T.int (f x)))).bind intsOf).map _ = _
  rw [show T.seqL (.lst (xs.map fun x => T.int (f x))) = some (xs.map fun x => T.int (f x)) from rfl, Option.bind_some, intsOf_mapf, Option.map_some]
theorem sumA_lst {α : Type} (f : α → Int) (xs : List α) : sumA [.lst (xs.map fun x => T.int (f x))] = some ⟨.int (xs.map f).sum, false⟩ := sum_lst f xs
theorem sumA_tup (ns : List Int) : sumA [.tup (ns.map T.int)] = some ⟨.int ns.sum, false⟩ := by
  show (intsOf (ns.map T.int)).map _ = _
  rw [intsOf_map]
  rfl
def mxL : List Int → Int
  | [] => 0
  | n :: r => maxI n r
def mnL : List Int → Int
  | [] => 0
  | n :: r => minI n r
theorem mxL_mem {l : List Int} (h : l ≠ []) : mxL l ∈ l := by
  cases l with
  | nil => exact absurd rfl h
  | cons n r =>
    obtain ⟨h1, _, _⟩ := maxI_spec r n
    rcases h1 with h1 | h1
    · show maxI n r ∈ n :: r
      rw [h1]
      simp
    · show maxI n r ∈ n :: r
      simp [h1]
theorem mxL_ge {l : List Int} {x : Int} (h : x ∈ l) : x ≤ mxL l := by
  cases l with
  | nil => cases h
  | cons n r =>
    obtain ⟨_, h2, h3⟩ := maxI_spec r n
    rcases List.mem_cons.mp h with rfl | h
    · exact h2
    · exact h3 x h
theorem max_lst {α : Type} (f : α → Int) (xs : List α) (h : xs ≠ []) : maxG [.lst (xs.map fun x => T.int (f x))] = some ⟨.int (mxL (xs.map f)), false⟩ := by
  show ((T.seqL (.lst (xs.map fun x => T.int (f x)))).bind intsOf).bind _ = _
  rw [show T.seqL (.lst (xs.map fun x => T.int (f x))) = some (xs.map fun x => T.int (f x)) from rfl, Option.bind_some, intsOf_mapf, Option.bind_some]
  cases xs with
  | nil => exact absurd rfl h
  | cons x r => rfl
theorem min_lst {α : Type} (f : α → Int) (xs : List α) (h : xs ≠ []) : minG [.lst (xs.map fun x => T.int (f x))] = some ⟨.int (mnL (xs.map f)), false⟩ := by
  show ((T.seqL (.lst (xs.map fun x => T.int (f x)))).bind intsOf).bind _ = _
  rw [show T.seqL (.lst (xs.map fun x => T.int (f x))) = some (xs.map fun x => T.int (f x)) from rfl, Option.bind_some, intsOf_mapf, Option.bind_some]
  cases xs with
  | nil => exact absurd rfl h
  | cons x r => rfl
theorem maxA_lst {α : Type} (f : α → Int) (xs : List α) (h : xs ≠ []) : maxA [.lst (xs.map fun x => T.int (f x))] = some ⟨.int (mxL (xs.map f)), false⟩ := max_lst f xs h
theorem minA_lst {α : Type} (f : α → Int) (xs : List α) (h : xs ≠ []) : minA [.lst (xs.map fun x => T.int (f x))] = some ⟨.int (mnL (xs.map f)), false⟩ := min_lst f xs h
theorem foldl_max (r : List Int) : ∀ n : Int, r.foldl max n = maxI n r := by
  induction r with
  | nil => intro n; rfl
  | cons x r ih =>
    intro n
    rw [List.foldl_cons, ih, maxI]
    congr 1
    by_cases h : n < x
    · rw [if_pos h]; exact Int.max_eq_right (Int.le_of_lt h)
    · rw [if_neg h]; exact Int.max_eq_left (by omega)
theorem foldl_min (r : List Int) : ∀ n : Int, r.foldl min n = minI n r := by
  induction r with
  | nil => intro n; rfl
  | cons x r ih =>
    intro n
    rw [List.foldl_cons, ih, minI]
    congr 1
    by_cases h : x < n
    · rw [if_pos h]; exact Int.min_eq_right (Int.le_of_lt h)
    · rw [if_neg h]; exact Int.min_eq_left (by omega)
theorem maxA_tup (ns : List Int) (h : ns ≠ []) : maxA [.tup (ns.map T.int)] = some ⟨.int (mxL ns), false⟩ := by
  show (intsOf (ns.map T.int)).bind _ = _
  rw [intsOf_map, Option.bind_some]
  cases ns with
  | nil => exact absurd rfl h
  | cons n r => show some (ri (r.foldl max n)) = _; rw [foldl_max]; rfl
theorem minA_tup (ns : List Int) (h : ns ≠ []) : minA [.tup (ns.map T.int)] = some ⟨.int (mnL ns), false⟩ := by
  show (intsOf (ns.map T.int)).bind _ = _
  rw [intsOf_map, Option.bind_some]
  cases ns with
  | nil => exact absurd rfl h
  | cons n r => show some (ri (r.foldl min n)) = _; rw [foldl_min]; rfl
theorem mnL_mem {l : List Int} (h : l ≠ []) : mnL l ∈ l := by
  cases l with
  | nil => exact absurd rfl h
  | cons n r =>
    obtain ⟨h1, _, _⟩ := minI_spec r n
    rcases h1 with h1 | h1
    · show minI n r ∈ n :: r
      rw [h1]
      simp
    · show minI n r ∈ n :: r
      simp [h1]
theorem mnL_le {l : List Int} {x : Int} (h : x ∈ l) : mnL l ≤ x := by
  cases l with
  | nil => cases h
  | cons n r =>
    obtain ⟨_, h2, h3⟩ := minI_spec r n
    rcases List.mem_cons.mp h with rfl | h
    · exact h2
    · exact h3 x h
@[simp] theorem ev_abs {i : Int} : absG [.int i] = some ⟨.int (if i < 0 then -i else i), false⟩ := id rfl
@[simp] theorem ev_max2 {i j : Int} : max2G [.int i, .int j] = some ⟨.int (if i < j then j else i), false⟩ := id rfl
@[simp] theorem ev_min2 {i j : Int} : min2G [.int i, .int j] = some ⟨.int (if j < i then j else i), false⟩ := id rfl
@[simp] theorem ev_isG1 {b : Bool} : isG (.bl b) (.bl true) = some ⟨.bl b, false⟩ := by cases b <;> rfl
@[simp] theorem ev_isG2 {b : Bool} : isnG (.bl b) (.bl true) = some ⟨.bl (!b), false⟩ := by cases b <;> rfl
@[simp] theorem ev_catT {ds es : List T} : addG (.tup ds) (.tup es) = if ds.length + es.length ≤ sizeLine then some ⟨.tup (ds ++ es), false⟩ else none := id rfl

/-! ### typed data -/
structure En {α : Type} [DecidableEq α] (e : α → T) (k : Nat) : Prop where
  eqv : ∀ a b, (e a).eqv (e b) = decide (a = b)
  lay : ∀ a, (e a).lay = true
  dep : ∀ a, (e a).dep ≤ k
section
variable {α β : Type} [DecidableEq α] [DecidableEq β] {e : α → T} {f : β → T} {k l : Nat}
theorem en_int : En T.int 0 := ⟨fun a b => by
  show (a == b) = decide (a = b)
  by_cases h : a = b <;> simp [h], fun _ => rfl, fun _ => Nat.le_refl _⟩
theorem en_nat : En (fun n : Nat => T.int n) 0 := ⟨fun a b => by
  show ((a : Int) == (b : Int)) = decide (a = b)
  by_cases h : a = b
  · simp [h]
  · have : ¬ (a : Int) = b := by omega
    simp [h, this], fun _ => rfl, fun _ => Nat.le_refl _⟩
theorem en_bl : En T.bl 0 := ⟨fun a b => by cases a <;> cases b <;> rfl, fun _ => rfl, fun _ => Nat.le_refl _⟩
theorem En.eqvA (h : En e k) : ∀ xs ys : List α, TR.eqvA (xs.map e) (ys.map e) = decide (xs = ys)
  | [], [] => rfl
  | [], _ :: _ => rfl
  | _ :: _, [] => rfl
  | x :: xs, y :: ys => by
    show ((e x).eqv (e y) && TR.eqvA (xs.map e) (ys.map e)) = _
    rw [h.eqv, h.eqvA xs ys, ← Bool.decide_and]
    exact decide_eq_decide.mpr (by rw [List.cons.injEq])
theorem En.layA (h : En e k) : ∀ xs : List α, TR.layA (xs.map e) = true
  | [] => rfl
  | x :: xs => by
    show ((e x).lay && TR.layA (xs.map e)) = true
    rw [h.lay, h.layA xs]
    rfl
theorem En.depA (h : En e k) : ∀ xs : List α, TR.depA (xs.map e) ≤ k
  | [] => Nat.zero_le _
  | x :: xs => by
    show max (e x).dep (TR.depA (xs.map e)) ≤ k
    exact Nat.max_le.mpr ⟨h.dep x, h.depA xs⟩
theorem En.lst (h : En e k) : En (fun xs : List α => T.lst (xs.map e)) (k + 1) := ⟨fun a b => h.eqvA a b, fun a => h.layA a, fun a => Nat.succ_le_succ (h.depA a)⟩
theorem En.tup (h : En e k) : En (fun xs : List α => T.tup (xs.map e)) (k + 1) := ⟨fun a b => h.eqvA a b, fun a => h.layA a, fun a => Nat.succ_le_succ (h.depA a)⟩
theorem En.pair (h : En e k) (h' : En f l) : En (fun p : α × β => T.tup [e p.1, f p.2]) (max k l + 1) := ⟨fun a b => by
  show ((e a.1).eqv (e b.1) && ((f a.2).eqv (f b.2) && true)) = _
  rw [h.eqv, h'.eqv, Bool.and_true, ← Bool.decide_and]
  exact decide_eq_decide.mpr ⟨fun z => Prod.ext z.1 z.2, fun z => by rw [z]; exact ⟨rfl, rfl⟩⟩, fun a => by
  show ((e a.1).lay && ((f a.2).lay && true)) = true
  rw [h.lay, h'.lay]
  rfl, fun a => by
  show max (e a.1).dep (max (f a.2).dep 0) + 1 ≤ _
  have h1 := h.dep a.1
  have h2 := h'.dep a.2
  omega⟩
theorem En.shp (h : En e k) (hk : k ≤ 64) (a : α) : (e a).shp = true := by
  unfold T.shp
  rw [h.lay a, decide_eq_true (Nat.le_trans (h.dep a) hk)]
  rfl
theorem En.eqG (h : En e k) (hk : k ≤ 64) (a b : α) : TR.eqG (e a) (e b) = some ⟨.bl (decide (a = b)), false⟩ := by
  unfold TR.eqG
  rw [h.shp hk, h.shp hk, h.eqv]
  rfl
theorem En.neG (h : En e k) (hk : k ≤ 64) (a b : α) : TR.neG (e a) (e b) = some ⟨.bl (!decide (a = b)), false⟩ := by
  unfold TR.neG
  rw [h.shp hk, h.shp hk, h.eqv]
  rfl
theorem En.any (h : En e k) (a : α) : ∀ xs : List α, ((xs.map e).any fun z => z.eqv (e a)) = decide (a ∈ xs)
  | [] => by simp
  | x :: xs => by
    rw [List.map_cons, List.any_cons, h.any a xs, h.eqv]
    by_cases q : x = a
    · subst q; simp
    · have q' : ¬ a = x := fun z => q z.symm
      simp [q, q']
theorem En.inL (h : En e k) (hk : k + 1 ≤ 64) (a : α) (xs : List α) : TR.inG (e a) (.lst (xs.map e)) = some ⟨.bl (decide (a ∈ xs)), false⟩ := by
  unfold TR.inG inT
  dsimp only
  rw [h.shp (by omega), show (T.lst (xs.map e)).shp = true from h.lst.shp hk xs, h.any]
  rfl
theorem En.ninL (h : En e k) (hk : k + 1 ≤ 64) (a : α) (xs : List α) : TR.ninG (e a) (.lst (xs.map e)) = some ⟨.bl (!decide (a ∈ xs)), false⟩ := by
  unfold TR.ninG inT
  dsimp only
  rw [h.shp (by omega), show (T.lst (xs.map e)).shp = true from h.lst.shp hk xs, h.any]
  rfl
theorem En.in_yes (h : En e k) (hk : k + 1 ≤ 64) {a : α} {xs : List α} (m : a ∈ xs) : TR.inG (e a) (.lst (xs.map e)) = some ⟨.bl true, false⟩ := by rw [h.inL hk, decide_eq_true m]
theorem En.in_no (h : En e k) (hk : k + 1 ≤ 64) {a : α} {xs : List α} (m : ¬ a ∈ xs) : TR.inG (e a) (.lst (xs.map e)) = some ⟨.bl false, false⟩ := by rw [h.inL hk, decide_eq_false m]
theorem En.nin_yes (h : En e k) (hk : k + 1 ≤ 64) {a : α} {xs : List α} (m : a ∈ xs) : TR.ninG (e a) (.lst (xs.map e)) = some ⟨.bl false, false⟩ := by rw [h.ninL hk, decide_eq_true m]; rfl
theorem En.nin_no (h : En e k) (hk : k + 1 ≤ 64) {a : α} {xs : List α} (m : ¬ a ∈ xs) : TR.ninG (e a) (.lst (xs.map e)) = some ⟨.bl true, false⟩ := by rw [h.ninL hk, decide_eq_false m]; rfl
end
structure EnO {α : Type} [DecidableEq α] (e : α → T) (k : Nat) (lt : α → α → Bool) : Prop extends En e k where
  alike : ∀ a b, PySem.W.alike (e a).toD (e b).toD = true
  lt_eq : ∀ a b, PySem.W.dataLt (e a).toD (e b).toD = lt a b
  nn : ∀ a, e a ≠ .non
def lexL {α : Type} [DecidableEq α] (lt : α → α → Bool) : List α → List α → Bool
  | [], [] => false
  | [], _ :: _ => true
  | _ :: _, [] => false
  | x :: xs, y :: ys => if x = y then lexL lt xs ys else lt x y
section
variable {α β : Type} [DecidableEq α] [DecidableEq β] {e : α → T} {f : β → T} {k l : Nat} {lt : α → α → Bool} {lt' : β → β → Bool}
theorem eno_int : EnO T.int 0 (fun a b => decide (a < b)) := ⟨en_int, fun a b => by show PySem.W.alike (.int a) (.int b) = true; simp only [PySem.W.alike], fun a b => PySem.W.dataLt_int a b, fun a => nofun⟩
theorem eno_nat : EnO (fun n : Nat => T.int n) 0 (fun a b => decide (a < b)) := ⟨en_nat, fun a b => by show PySem.W.alike (.int a) (.int b) = true; simp only [PySem.W.alike], fun a b => (PySem.W.dataLt_int a b).trans (decide_eq_decide.mpr (by omega)), fun a => nofun⟩
theorem EnO.alikeA (h : EnO e k lt) : ∀ xs ys : List α, PySem.W.alikeAll (toDA (xs.map e)) (toDA (ys.map e)) = true
  | [], _ => by rw [List.map_nil, toDA, PySem.W.alikeAll]
  | _ :: _, [] => by rw [List.map_nil, List.map_cons, toDA, toDA, PySem.W.alikeAll]
  | x :: xs, y :: ys => by
    rw [List.map_cons, List.map_cons, toDA, toDA, PySem.W.alikeAll, h.alike x y, h.alikeA xs ys]
    rfl
theorem EnO.lexA (h : EnO e k lt) : ∀ xs ys : List α, PyProof.Rows.lexLt PyProof.Rows.itemOrd (PySem.W.keyToksAll (toDA (xs.map e))) (PySem.W.keyToksAll (toDA (ys.map e))) = lexL lt xs ys
  | [], [] => PyProof.Rows.lex_irrefl _
  | [], y :: ys => by
    rw [List.map_nil, List.map_cons, toDA, toDA, PySem.W.toks_all_cons]
    simp only [PySem.W.keyToksAll]
    rw [PyProof.Rows.lex_diff (O := PyProof.Rows.itemOrd) (by simp)]
    rfl
  | x :: xs, [] => by
    rw [List.map_nil, List.map_cons, toDA, toDA, PySem.W.toks_all_cons]
    simp only [PySem.W.keyToksAll]
    rw [PyProof.Rows.lex_diff (O := PyProof.Rows.itemOrd) (by simp)]
    rfl
  | x :: xs, y :: ys => by
    rw [List.map_cons, List.map_cons, toDA, toDA, lexL]
    have ev : PyData.eqv (e x).toD (e y).toD = decide (x = y) := (eqv_toD _ _).trans (h.eqv x y)
    by_cases q : x = y
    · rw [if_pos q, PySem.W.dataLt_all_yes (h.alike x y) (by rw [ev, decide_eq_true_eq]; exact q), h.lexA xs ys]
    · rw [if_neg q, PySem.W.dataLt_all_no (h.alike x y) (by rw [ev, decide_eq_false_iff_not]; exact q)]
      exact h.lt_eq x y
theorem EnO.lst (h : EnO e k lt) : EnO (fun xs : List α => T.lst (xs.map e)) (k + 1) (lexL lt) := ⟨h.toEn.lst, fun a b => by show PySem.W.alike (.list _) (.list _) = true; simp only [PySem.W.alike]; exact h.alikeA a b, fun a b => (PySem.W.dataLt_list _ _).trans (h.lexA a b), fun a => nofun⟩
theorem EnO.tup (h : EnO e k lt) : EnO (fun xs : List α => T.tup (xs.map e)) (k + 1) (lexL lt) := ⟨h.toEn.tup, fun a b => by show PySem.W.alike (.tuple _) (.tuple _) = true; simp only [PySem.W.alike]; exact h.alikeA a b, fun a b => (PySem.W.dataLt_tuple _ _).trans (h.lexA a b), fun a => nofun⟩
theorem EnO.leT (h : EnO e k lt) (a b : α) : TR.leT (e a) (e b) = !lt b a := by
  show (!PySem.W.dataLt (e b).toD (e a).toD) = _
  rw [h.lt_eq]
theorem EnO.sortT (h : EnO e k lt) (xs : List α) : TR.sortT (xs.map e) = (isort (fun a b => !lt b a) xs).map e := by
  unfold TR.sortT
  rw [← isort_map e xs]
  congr 1
  congr 1
  funext a b
  exact h.leT a b
theorem EnO.sorted (h : EnO e k lt) (hk : k ≤ 60) (xs : List α) (hx : xs.length ≤ sizeLine) (hs : (∀ x ∈ xs, isTup1 (e x) = true) ∨ (∀ x ∈ xs, notTN (e x) = true)) : sortedG [.lst (xs.map e)] = some ⟨.lst ((isort (fun a b => !lt b a) xs).map e), true⟩ := by
  have ok : sortOk (xs.map e) = true := by
    unfold sortOk
    rw [h.layA xs, decide_eq_true (Nat.le_trans (h.depA xs) hk), List.length_map, decide_eq_true hx]
    simp only [Bool.true_and, Bool.and_eq_true, Bool.or_eq_true, List.all_eq_true]
    refine ⟨?_, fun a ha b hb => ?_⟩
    · rcases hs with hs | hs
      · exact .inl fun x hx => by obtain ⟨y, hy, rfl⟩ := List.mem_map.mp hx; exact hs y hy
      · exact .inr fun x hx => by obtain ⟨y, hy, rfl⟩ := List.mem_map.mp hx; exact hs y hy
    · obtain ⟨a, _, rfl⟩ := List.mem_map.mp ha
      obtain ⟨b, _, rfl⟩ := List.mem_map.mp hb
      exact h.alike a b
  show (if sortOk (xs.map e) = true then _ else _) = _
  rw [if_pos ok, h.sortT]
def minOn {α : Type} (lt : α → α → Bool) (x : α) (xs : List α) : α := xs.foldl (fun a y => if lt y a = true then y else a) x
theorem EnO.minT (h : EnO e k lt) : ∀ (xs : List α) (x : α), TR.minT (e x) (xs.map e) = e (minOn lt x xs)
  | [], _ => rfl
  | y :: ys, x => by
    show TR.minT (if PySem.W.dataLt (e y).toD (e x).toD = true then e y else e x) (ys.map e) = e (minOn lt (if lt y x = true then y else x) ys)
    rw [h.lt_eq, ← h.minT ys]
    split <;> rfl
theorem EnO.minB (h : EnO e k lt) (hk : k ≤ 60) (hi : ∀ a, isTI (e a) = true) (x : α) (xs : List α) : TR.minB [.lst (e x :: xs.map e)] = some ⟨e (minOn lt x xs), false⟩ := by
  have ok : minOk (e x :: xs.map e) = true := by
    rw [show e x :: xs.map e = (x :: xs).map e from rfl]
    unfold minOk
    simp only [Bool.and_eq_true, List.all_eq_true]
    refine ⟨fun a ha => ?_, h.layA _, Nat.ble_eq_true_of_le (Nat.le_trans (h.depA _) hk), fun a ha b hb => ?_⟩
    · obtain ⟨a, _, rfl⟩ := List.mem_map.mp ha
      exact hi a
    · obtain ⟨a, _, rfl⟩ := List.mem_map.mp ha
      obtain ⟨b, _, rfl⟩ := List.mem_map.mp hb
      exact h.alike a b
  show (if minOk (e x :: xs.map e) = true then _ else _) = _
  rw [if_pos ok, h.minT]
end
@[simp] theorem ev_eqB {a b : Bool} : eqG (.bl a) (.bl b) = some ⟨.bl (decide (a = b)), false⟩ := en_bl.eqG (by decide) a b
@[simp] theorem ev_neB {a b : Bool} : neG (.bl a) (.bl b) = some ⟨.bl (!decide (a = b)), false⟩ := en_bl.neG (by decide) a b
/-- tuples of whole numbers -/
abbrev eT (xs : List Int) : T := .tup (xs.map .int)
abbrev eLI (xs : List Int) : T := .lst (xs.map .int)
theorem en_eT : En eT 1 := en_int.tup
theorem eno_eT : EnO eT 1 (lexL fun a b => decide (a < b)) := eno_int.tup
theorem isTI_eT (xs : List Int) : isTI (eT xs) = true := by
  show (xs.map T.int).all isInt = true
  rw [List.all_map]
  exact List.all_eq_true.mpr fun _ _ => rfl
end TR

namespace TR
open PySem L2

/-! ### loops over a dict -/
section
variable {τ : Sls} {j : Nat}
@[simp] theorem ev_keyI : keyI j τ = match τ[j]? with
  | some (.fr (.dic ds)) => some (ds.map (·.1), τ)
  | _ => none := id rfl
@[simp] theorem ev_lcD {g : T → Sls → Option Sls} {cnd : M Bool} {elt : M T} {own : List Nat} : lcD j g cnd elt own τ = (vrd j τ).bind fun p => match p.1 with
  | .dic _ => lcE (keyI j) g cnd elt own p.2
  | _ => none := id rfl
@[simp] theorem ev_forD {g : T → Sls → Option Sls} {body : Sls → Option Out} : forD j g body τ = (vrd j τ).bind fun p => match p.1 with
  | .dic _ => forS (keyI j) g body p.2
  | _ => none := id rfl
@[simp] theorem ev_isnon : isG .non .non = some ⟨.bl true, false⟩ := id rfl
end

theorem sq_nx {f g : Sls → Option Out} {τ τ1 : Sls} {o : Option Out} (h : f τ = some (.nx τ1)) (h2 : g τ1 = o) : sqS f g τ = o := by
  unfold sqS
  rw [h]
  exact h2

/-- a while of so many turns -/
theorem whS_cnt {c : M Bool} {b : Sls → Option Out} (Inv : Nat → Sls → Prop) (n : Nat) (hc : ∀ k τ, k ≤ n → Inv k τ → ∃ τ', c τ = some (decide (k < n), τ') ∧ Inv k τ')
    (hb : ∀ k τ, k < n → Inv k τ → ∃ τ', b τ = some (.nx τ') ∧ Inv (k + 1) τ') : ∀ (fuel k : Nat) (τ : Sls), n - k < fuel → k ≤ n → Inv k τ → ∃ τ', whS c b fuel τ = some (.nx τ') ∧ Inv n τ'
  | 0, _, _, h, _, _ => absurd h (by omega)
  | fuel + 1, k, τ, h, hk, hI => by
    obtain ⟨τ1, h1, h2⟩ := hc k τ hk hI
    rw [whS, h1, Option.bind_some]
    by_cases q : k < n
    · rw [if_pos (decide_eq_true q)]
      obtain ⟨τ2, h3, h4⟩ := hb k τ1 q h2
      obtain ⟨τ3, h5, h6⟩ := whS_cnt Inv n hc hb fuel (k + 1) τ2 (by omega) (by omega) h4
      refine ⟨τ3, ?_, h6⟩
      show ((b τ1).bind fun o => _) = _
      rw [h3]
      exact h5
    · have e : k = n := by omega
      subst e
      rw [if_neg (by rw [decide_eq_false q]; exact Bool.false_ne_true)]
      exact ⟨τ1, rfl, h2⟩
@[simp] theorem ev_lrg1 {τ : Sls} {fa : M (Sls → Option T)} : lrgE1 fa τ = (fa τ).bind fun p => (p.1 p.2).bind fun x => match x with
  | .int j => (lrgOf 0 j).map fun r => (r, p.2)
  | _ => none := id rfl
@[simp] theorem ev_lrg2 {τ : Sls} {fa fb : M (Sls → Option T)} : lrgE2 fa fb τ = (fa τ).bind fun p => (fb p.2).bind fun q => (p.1 q.2).bind fun x => (q.1 q.2).bind fun y => match x with
  | .int i => match y with
    | .int j => (lrgOf i j).map fun r => (r, q.2)
    | _ => none
  | _ => none := id rfl
theorem lrgOf_nat (n : Nat) (h : n ≤ 100000) : lrgOf 0 (n : Int) = some ⟨.lst (rngT 0 n), true⟩ := by
  have e1 : rgOk 0 = true := by decide +kernel
  have e2 := rgOk_n n (by omega)
  have e3 : ((n : Int) - 0).toNat = n := by omega
  unfold lrgOf
  rw [e1, e2, e3, decide_eq_true (show n ≤ 2 ^ 24 from Nat.le_trans h (by decide))]
  rfl

/-! ### the law's own comparing -/
def b_law_same (fr : FnS) : Sls → Option Out :=
  (sqS (ifS (trB (ov (fz (isiE "dict" (prdOk 1))))) (sqS (ifS (orB (notB (trB (ov (fz (isiE "dict" (prdOk 0)))))) (bT (opE neG (ov (fz (calE lenG (consO (prdOk 0) nilO)))) (ov (fz (calE lenG (consO (prdOk 1) nilO))))))) (rtS (rv (cst (.bl false)))) skS)
    (rtS (calE allG (consO (ov (fz (lcD 1 (gN 2) yesB (fz (andE (fz (opE inG (prdOk 2) (prdOk 0))) (callE fr (consC (fz (opE ixG (prdOk 0) (prdOk 2))) (consC (fz (opE ixG (prdOk 1) (prdOk 2))) nilC))))) [2]))) nilO)))) skS)
    (sqS (ifS (orB (trB (ov (fz (isiE "list" (prdOk 1))))) (trB (ov (fz (isiE "tuple" (prdOk 1)))))) (sqS (ifS (orB (bT (opE neG (ov (fz (isiE "list" (prdOk 1)))) (ov (fz (isiE "list" (prdOk 0)))))) (bT (opE neG (ov (fz (isiE "tuple" (prdOk 1)))) (ov (fz (isiE "tuple" (prdOk 0))))))) (rtS (rv (cst (.bl false)))) skS)
    (rtS (andE (fz (opE eqG (ov (fz (calE lenG (consO (prdOk 0) nilO)))) (ov (fz (calE lenG (consO (prdOk 1) nilO)))))) (calE allG (consO (ov (fz (lcE (rng1 (consO (ov (fz (calE lenG (consO (prdOk 1) nilO)))) nilO)) (gN 3) yesB (fz (callE fr (consC (fz (opE ixG (prdOk 0) (prdOk 3))) (consC (fz (opE ixG (prdOk 1) (prdOk 3))) nilC)))) [3]))) nilO))))) skS)
    (sqS (ifS (trB (ov (fz (isiE "str" (prdOk 1))))) (rtS (andE (fz (isiE "str" (prdOk 0))) (opE eqG (prdOk 0) (prdOk 1)))) skS)
    (sqS (ifS (orB (bT (opE isG (prdOk 1) (ov (cst .non)))) (orB (bT (opE isG (prdOk 1) (ov (cst (.bl true))))) (bT (opE isG (prdOk 1) (ov (cst (.bl false))))))) (rtS (orE (fz (andE (fz (opE isG (prdOk 1) (ov (cst .non)))) (opE isG (prdOk 0) (ov (cst .non))))) (orE (fz (andE (fz (opE isG (prdOk 1) (ov (cst (.bl true))))) (opE isG (prdOk 0) (ov (cst (.bl true)))))) (andE (fz (opE isG (prdOk 1) (ov (cst (.bl false))))) (opE isG (prdOk 0) (ov (cst (.bl false)))))))) skS)
    (rtS (andE (fz (isiE "int" (prdOk 0))) (andE (fz (notE (ov (fz (isiE "bool" (prdOk 0)))))) (opE eqG (prdOk 0) (prdOk 1)))))))))
def fN_law_same : Nat → FnS
  | 0 => fun _ => none
  | n + 1 => fnS 2 (b_law_same (fN_law_same n))
def f_law_same : FnS := fN_law_same 5
def law_same_p1t1 (fr : FnS) : Sls → Option Out := (ifS (orB (notB (trB (ov (fz (isiE "dict" (prdOk 0)))))) (bT (opE neG (ov (fz (calE lenG (consO (prdOk 0) nilO)))) (ov (fz (calE lenG (consO (prdOk 1) nilO))))))) (rtS (rv (cst (.bl false)))) skS)
def law_same_p1t2e1 (fr : FnS) : M T := (fz (andE (fz (opE inG (prdOk 2) (prdOk 0))) (callE fr (consC (fz (opE ixG (prdOk 0) (prdOk 2))) (consC (fz (opE ixG (prdOk 1) (prdOk 2))) nilC)))))
def law_same_p1t2 (fr : FnS) : Sls → Option Out := (rtS (calE allG (consO (ov (fz (lcD 1 (gN 2) yesB (law_same_p1t2e1 fr) [2]))) nilO)))
def law_same_p1t (fr : FnS) : Sls → Option Out := (sqS (law_same_p1t1 fr) (law_same_p1t2 fr))
def law_same_p1 (fr : FnS) : Sls → Option Out := (ifS (trB (ov (fz (isiE "dict" (prdOk 1))))) (law_same_p1t fr) skS)
def law_same_p2t1 (fr : FnS) : Sls → Option Out := (ifS (orB (bT (opE neG (ov (fz (isiE "list" (prdOk 1)))) (ov (fz (isiE "list" (prdOk 0)))))) (bT (opE neG (ov (fz (isiE "tuple" (prdOk 1)))) (ov (fz (isiE "tuple" (prdOk 0))))))) (rtS (rv (cst (.bl false)))) skS)
def law_same_p2t2e1 (fr : FnS) : M T := (fz (callE fr (consC (fz (opE ixG (prdOk 0) (prdOk 3))) (consC (fz (opE ixG (prdOk 1) (prdOk 3))) nilC))))
def law_same_p2t2 (fr : FnS) : Sls → Option Out := (rtS (andE (fz (opE eqG (ov (fz (calE lenG (consO (prdOk 0) nilO)))) (ov (fz (calE lenG (consO (prdOk 1) nilO)))))) (calE allG (consO (ov (fz (lcE (rng1 (consO (ov (fz (calE lenG (consO (prdOk 1) nilO)))) nilO)) (gN 3) yesB (law_same_p2t2e1 fr) [3]))) nilO))))
def law_same_p2t (fr : FnS) : Sls → Option Out := (sqS (law_same_p2t1 fr) (law_same_p2t2 fr))
def law_same_p2 (fr : FnS) : Sls → Option Out := (ifS (orB (trB (ov (fz (isiE "list" (prdOk 1))))) (trB (ov (fz (isiE "tuple" (prdOk 1)))))) (law_same_p2t fr) skS)
def law_same_p3 (fr : FnS) : Sls → Option Out := (ifS (trB (ov (fz (isiE "str" (prdOk 1))))) (rtS (andE (fz (isiE "str" (prdOk 0))) (opE eqG (prdOk 0) (prdOk 1)))) skS)
def law_same_p4 (fr : FnS) : Sls → Option Out := (ifS (orB (bT (opE isG (prdOk 1) (ov (cst .non)))) (orB (bT (opE isG (prdOk 1) (ov (cst (.bl true))))) (bT (opE isG (prdOk 1) (ov (cst (.bl false))))))) (rtS (orE (fz (andE (fz (opE isG (prdOk 1) (ov (cst .non)))) (opE isG (prdOk 0) (ov (cst .non))))) (orE (fz (andE (fz (opE isG (prdOk 1) (ov (cst (.bl true))))) (opE isG (prdOk 0) (ov (cst (.bl true)))))) (andE (fz (opE isG (prdOk 1) (ov (cst (.bl false))))) (opE isG (prdOk 0) (ov (cst (.bl false)))))))) skS)
def law_same_p5 (fr : FnS) : Sls → Option Out := (rtS (andE (fz (isiE "int" (prdOk 0))) (andE (fz (notE (ov (fz (isiE "bool" (prdOk 0)))))) (opE eqG (prdOk 0) (prdOk 1)))))
def law_same_p (fr : FnS) : Sls → Option Out := (sqS (law_same_p1 fr) (sqS (law_same_p2 fr) (sqS (law_same_p3 fr) (sqS (law_same_p4 fr) (law_same_p5 fr)))))
theorem b_law_same_eq (fr : FnS) : b_law_same fr = (law_same_p fr) := rfl

def sok : Nat → T → Prop
  | 0, _ => False
  | n + 1, d => match d with
    | .non => True
    | .bl _ => True
    | .int _ => True
    | .str x => (T.str x).shp = true
    | .tup xs => xs.length ≤ 100000 ∧ ∀ x ∈ xs, sok n x
    | .lst xs => xs.length ≤ 100000 ∧ ∀ x ∈ xs, sok n x
    | .dic kvs => kvs.length ≤ 100000 ∧ ∀ kv ∈ kvs, sok n kv.2 ∧ (keyOf kv.1).isSome = true ∧ lookT kvs kv.1 = some kv.2
    | _ => False
theorem map_const {α : Type} {b : T} : ∀ xs : List α, (xs.map fun _ => b).length = xs.length := fun xs => List.length_map ..
theorem same_seq (n : Nat) (d : T) (xs : List T) (hd : d = .lst xs ∨ d = .tup xs) (hl : xs.length ≤ 100000) (ih : ∀ x ∈ xs, fN_law_same n [.fr x, .fr x] = some (⟨.bl true, false⟩, [.fr x, .fr x])) : fN_law_same (n + 1) [.fr d, .fr d] = some (⟨.bl true, false⟩, [.fr d, .fr d]) := by
  have hz : xs.length ≤ sizeLine := Nat.le_trans hl (by decide)
  have h : lcL (gN 3) yesB (law_same_p2t2e1 (fN_law_same n)) [3] (rngT 0 xs.length) [.fr d, .fr d, .no, .no] = some ((List.range xs.length).map (fun _ => T.bl true), [.fr d, .fr d, .no, .no]) := by
    rw [rngT0]
    refine lcL_mapE _ _ _ fun i hi => ?_
    have hi := List.mem_range.mp hi
    have ha := atI_nat hi
    have hr := ih _ (List.getElem_mem hi)
    rcases hd with rfl | rfl <;> simp [lcOne, law_same_p2t2e1, ha, hr]
  have hall : allG [.lst ((List.range xs.length).map (fun _ => T.bl true))] = some ⟨.bl true, false⟩ := by
    rw [all_lst (fun _ => true)]
    simp
  have hrg := rgOk_n xs.length (by omega)
  rw [show fN_law_same (n + 1) = fnS 2 (b_law_same (fN_law_same n)) from rfl, ev_fn, b_law_same_eq]
  rw [List.map_const', List.length_range] at h hall
  rcases hd with rfl | rfl <;> simp [law_same_p, law_same_p1, law_same_p2, law_same_p2t, law_same_p2t1, law_same_p2t2, isiB, hrg, h, hz, hall]
theorem same_refl : ∀ (n : Nat) (d : T), sok n d → fN_law_same n [.fr d, .fr d] = some (⟨.bl true, false⟩, [.fr d, .fr d])
  | 0, _, h => h.elim
  | n + 1, .non, _ => by
    rw [show fN_law_same (n + 1) = fnS 2 (b_law_same (fN_law_same n)) from rfl, ev_fn, b_law_same_eq]
    simp [law_same_p, law_same_p1, law_same_p2, law_same_p3, law_same_p4, isiB]
  | n + 1, .bl b, _ => by
    rw [show fN_law_same (n + 1) = fnS 2 (b_law_same (fN_law_same n)) from rfl, ev_fn, b_law_same_eq]
    cases b <;> rfl
  | n + 1, .int i, _ => by
    rw [show fN_law_same (n + 1) = fnS 2 (b_law_same (fN_law_same n)) from rfl, ev_fn, b_law_same_eq]
    have h1 : isG (.int i) .non = some ⟨.bl false, false⟩ := rfl
    have h2 : isG (.int i) (.bl true) = some ⟨.bl false, false⟩ := rfl
    have h3 : isG (.int i) (.bl false) = some ⟨.bl false, false⟩ := rfl
    simp [law_same_p, law_same_p1, law_same_p2, law_same_p3, law_same_p4, law_same_p5, isiB, h1, h2, h3]
  | n + 1, .str x, h => by
    have hs : (T.str x).shp = true := h
    have he : eqG (.str x) (.str x) = some ⟨.bl true, false⟩ := by
      unfold eqG
      rw [hs]
      show some (rb (x == x)) = _
      rw [beq_self_eq_true]
    rw [show fN_law_same (n + 1) = fnS 2 (b_law_same (fN_law_same n)) from rfl, ev_fn, b_law_same_eq]
    simp [law_same_p, law_same_p1, law_same_p2, law_same_p3, isiB, he]
  | n + 1, .tup xs, h => same_seq n _ xs (.inr rfl) h.1 fun x hx => same_refl n x (h.2 x hx)
  | n + 1, .lst xs, h => same_seq n _ xs (.inl rfl) h.1 fun x hx => same_refl n x (h.2 x hx)
  | n + 1, .dic kvs, h => by
    have hz : kvs.length ≤ sizeLine := Nat.le_trans h.1 (by decide)
    have hl : lcL (gN 2) yesB (law_same_p1t2e1 (fN_law_same n)) [2] (kvs.map (·.1)) [.fr (.dic kvs), .fr (.dic kvs), .no, .no] = some (kvs.map (fun _ => T.bl true), [.fr (.dic kvs), .fr (.dic kvs), .no, .no]) := by
      refine lcL_mapE _ _ _ fun kv hk => ?_
      obtain ⟨h1, h2, h3⟩ := h.2 kv hk
      have hr := same_refl n kv.2 h1
      have ha : askT (.dic kvs) kv.1 = some (some kv.2) := by
        show (if (keyOf kv.1).isSome then some (lookT kvs kv.1) else none) = _
        rw [h3, h2]
        rfl
      have hin : inG kv.1 (.dic kvs) = some ⟨.bl true, false⟩ := by
        show ((askT (.dic kvs) kv.1).map Option.isSome).map rb = _
        rw [ha]
        rfl
      have hix : ixG (.dic kvs) kv.1 = some ⟨kv.2, false⟩ := by
        show ((askT (.dic kvs) kv.1).bind id).map _ = _
        rw [ha]
        rfl
      simp [lcOne, law_same_p1t2e1, hin, hix, hr]
    have hall : allG [.lst (kvs.map (fun _ => T.bl true))] = some ⟨.bl true, false⟩ := by
      rw [all_lst (fun _ => true)]
      simp
    rw [show fN_law_same (n + 1) = fnS 2 (b_law_same (fN_law_same n)) from rfl, ev_fn, b_law_same_eq]
    rw [List.map_const'] at hl hall
    simp [law_same_p, law_same_p1, law_same_p1t, law_same_p1t1, law_same_p1t2, isiB, hl, hz, hall]
theorem same_ok (d : T) (h : sok 5 d) : f_law_same [.fr d, .fr d] = some (⟨.bl true, false⟩, [.fr d, .fr d]) := same_refl 5 d h
end TR

namespace TR
open PySem L2

/-! ### a whole number of the module, by its name -/
theorem v_gint {X : Cx} {x : Str} {i : Int} {pos : Pos} (hg : Gl X x) (h : ∃ t, X.mg x = some (.int i t)) (hd : (x == ("__debug__" : Str)) = false := by decide) : EV X (.Name x pos) (tC (.int i)) (cst (.int i)) := by
  obtain ⟨t, e⟩ := h
  exact ⟨pe_glob hg e ⟨t, rfl⟩ hd, sv_c fun H => .int i⟩
/-! ### a sealed thing: the kernel can't look into it -/
noncomputable def sl {α : Type} (a : α) : α := Classical.choose (p := fun x => x = a) ⟨a, rfl⟩
theorem sl_eq {α : Type} (a : α) : sl a = a := Classical.choose_spec (p := fun x => x = a) ⟨a, rfl⟩
end TR

namespace TR
open PySem L2
def b_bits_of : Sls → Option Out :=
  (sqS (asgS 2 (lstE nilV))
    (sqS (forS (rng1 (consO (prdOk 1) nilO)) (gN 3) (sqS (exS (metE 2 appG (consV (fz (opE modG (prdOk 0) (ov (cst (.int 2))))) nilV)))
    (asgS 0 (opE fdivG (prdOk 0) (ov (cst (.int 2)))))))
    (rtS (unE revB (prdOk 2)))))
def f_bits_of : FnS := fnS 2 b_bits_of
def b_row_of : Sls → Option Out :=
  (sqS (asgS 1 (lstE nilV))
    (sqS (forS (rng1 (consO (ov (cst (.int 32))) nilO)) (gN 2) (sqS (asgS 3 (callE f_bits_of (consC (vrd 2) (consC (cst (.int 5)) nilC))))
    (exS (metE 1 appG (consV (fz (opE modG (ov (fz (opE addG (ov (fz (opE ixG (prdOk 0) (ov (cst (.int 0)))))) (ov (fz (calE sumA (consO (ov (fz (lcE (rng1 (consO (ov (cst (.int 5))) nilO)) (gN 4) yesB (fz (opE mulG (ov (fz (opE ixG (prdOk 3) (prdOk 4)))) (ov (fz (opE ixG (prdOk 0) (ov (fz (opE addG (prdOk 4) (ov (cst (.int 1))))))))))) [4]))) nilO))))))) (ov (cst (.int 2))))) nilV)))))
    (mvS 1)))
def f_row_of : FnS := fnS 4 b_row_of
def b_sums_of : Sls → Option Out :=
  (sqS (asgS 1 (lcE (lstI (vrd 0)) (gN 5) yesB (fz (opE subG (ov (cst (.int 1))) (ov (fz (opE mulG (ov (cst (.int 2))) (prdOk 5)))))) [5]))
    (sqS (asgS 2 (rv (cst (.int 1))))
    (sqS (whS (bT (opE ltG (prdOk 2) (ov (cst (.int 32))))) (sqS (asgS 3 (calE listG (consO (prdOk 1) nilO)))
    (sqS (forS (rng1 (consO (ov (cst (.int 32))) nilO)) (gN 4) (ifS (bT (opE eqG (ov (fz (opE modG (ov (fz (opE fdivG (prdOk 4) (prdOk 2)))) (ov (cst (.int 2)))))) (ov (cst (.int 0))))) (sqS (ixS 3 (fz (opE addG (ov (fz (opE ixG (prdOk 1) (prdOk 4)))) (ov (fz (opE ixG (prdOk 1) (ov (fz (opE addG (prdOk 4) (prdOk 2))))))))) (vrd 4))
    (ixS 3 (fz (opE subG (ov (fz (opE ixG (prdOk 1) (prdOk 4)))) (ov (fz (opE ixG (prdOk 1) (ov (fz (opE addG (prdOk 4) (prdOk 2))))))))) (fz (opE addG (prdOk 4) (prdOk 2))))) skS))
    (sqS (asgS 1 (rv (vrd 3)))
    (asgS 2 (opE mulG (ov (cst (.int 2))) (prdOk 2)))))) 1000)
    (mvS 1))))
def f_sums_of : FnS := fnS 5 b_sums_of
def b_nearest : Sls → Option Out :=
  (sqS (asgS 1 (callE f_sums_of (consC (vrd 0) nilC)))
    (sqS (forS (rng1 (consO (ov (cst (.int 32))) nilO)) (gN 2) (sqS (ifS (bT (opE geG (ov (fz (opE ixG (prdOk 1) (prdOk 2)))) (ov (fz (opE subG (ov (cst (.int 32))) (ov (cst (.int 14)))))))) (rtS (opE addG (ov (fz (lstE (consV (cst (.int 0)) nilV)))) (ov (fz (callE f_bits_of (consC (vrd 2) (consC (cst (.int 5)) nilC))))))) skS)
    (ifS (bT (opE leG (ov (fz (opE ixG (prdOk 1) (prdOk 2)))) (ov (fz (opE subG (ov (cst (.int 14))) (ov (cst (.int 32)))))))) (rtS (opE addG (ov (fz (lstE (consV (cst (.int 1)) nilV)))) (ov (fz (callE f_bits_of (consC (vrd 2) (consC (cst (.int 5)) nilC))))))) skS)))
    (rtS (rv (cst .non)))))
def f_nearest : FnS := fnS 2 b_nearest
def b_nearest_read : Sls → Option Out :=
  (sqS (asgS 1 (calE lenG (consO (ov (fz (lcE (lstI (vrd 0)) (gN 7) (bT (opE isG (prdOk 7) (ov (cst .non)))) (vrd 7) [7]))) nilO)))
    (sqS (asgS 2 (rv (cst .non)))
    (sqS (forS (rng1 (consO (ov (fz (opE mulG (ov (cst (.int 2))) (ov (cst (.int 32)))))) nilO)) (gN 3) (sqS (asgS 4 (callE f_bits_of (consC (vrd 3) (consC (fz (opE addG (ov (cst (.int 5))) (ov (cst (.int 1))))) nilC))))
    (sqS (asgS 5 (callE f_row_of (consC (vrd 4) nilC)))
    (sqS (asgS 6 (calE lenG (consO (ov (fz (lcE (enuI (consV (vrd 0) nilV)) (gT (gsCons (gN 8) (gsCons (gN 7) gsNil))) (andB (bT (opE isnG (prdOk 7) (ov (cst .non)))) (bT (opE neG (prdOk 7) (ov (fz (opE ixG (prdOk 5) (prdOk 8))))))) (vrd 8) [8, 7]))) nilO)))
    (ifS (bT (opE ltG (ov (fz (opE addG (ov (fz (opE mulG (ov (cst (.int 2))) (prdOk 6)))) (prdOk 1)))) (ov (fz (opE fdivG (ov (cst (.int 32))) (ov (cst (.int 2)))))))) (asgS 2 (rv (vrd 4))) skS)))))
    (mvS 2))))
def f_nearest_read : FnS := fnS 8 b_nearest_read
def b_law_bits : Sls → Option Out :=
  (sqS (asgS 2 (lstE nilV))
    (sqS (forS (rng1 (consO (prdOk 1) nilO)) (gN 3) (sqS (asgS 2 (opE addG (ov (fz (lstE (consV (fz (opE modG (ov (fz (calE intG (consO (prdOk 0) nilO)))) (ov (cst (.int 2))))) nilV)))) (prdOk 2)))
    (asgS 0 (opE fdivG (prdOk 0) (ov (cst (.int 2)))))))
    (mvS 2)))
def f_law_bits : FnS := fnS 2 b_law_bits
def b_law_row : Sls → Option Out :=
  (sqS (asgS 1 (lstE nilV))
    (sqS (forS (rng1 (consO (ov (cst (.int 32))) nilO)) (gN 2) (sqS (asgS 3 (callE f_law_bits (consC (vrd 2) (consC (cst (.int 5)) nilC))))
    (exS (metE 1 appG (consV (fz (opE modG (ov (fz (calE intG (consO (ov (fz (opE addG (ov (fz (opE ixG (prdOk 0) (ov (cst (.int 0)))))) (ov (fz (calE sumA (consO (ov (fz (lcE (rng1 (consO (ov (cst (.int 5))) nilO)) (gN 4) yesB (fz (opE mulG (ov (fz (opE ixG (prdOk 3) (prdOk 4)))) (ov (fz (opE ixG (prdOk 0) (ov (fz (opE addG (prdOk 4) (ov (cst (.int 1))))))))))) [4]))) nilO))))))) nilO)))) (ov (cst (.int 2))))) nilV)))))
    (mvS 1)))
def f_law_row : FnS := fnS 4 b_law_row
def b_law_apart : Sls → Option Out :=
  (rtS (calE sumA (consO (ov (fz (lcE (rng1 (consO (ov (fz (calE lenG (consO (prdOk 0) nilO)))) nilO)) (gN 2) yesB (fz (calE intG (consO (ov (fz (opE neG (ov (fz (opE ixG (prdOk 0) (prdOk 2)))) (ov (fz (opE ixG (prdOk 1) (prdOk 2))))))) nilO))) [2]))) nilO)))
def f_law_apart : FnS := fnS 1 b_law_apart
def b_law : Sls → Option Out :=
  (sqS (asgS 1 (callE f_law_pool (consC (vrd 0) nilC)))
    (sqS (asgS 2 (callE f_law_draw (plcC 1 (consC (cst (.int 64)) nilC))))
    (sqS (asgS 3 (callE f_law_bits (consC (vrd 2) (consC (cst (.int 6)) nilC))))
    (sqS (asgS 4 (callE f_law_row (consC (vrd 3) nilC)))
    (sqS (ifS (notB (trB (ov (fz (callE f_law_same (consC (fz (callE f_row_of (consC (fz (calE listG (consO (prdOk 3) nilO))) nilC))) (consC (vrd 4) nilC))))))) (rtS (rv (cst (.bl false)))) skS)
    (sqS (asgS 5 (lcE (rng1 (consO (ov (cst (.int 64))) nilO)) (gN 9) yesB (fz (callE f_law_row (consC (fz (callE f_law_bits (consC (vrd 9) (consC (cst (.int 6)) nilC)))) nilC))) [9]))
    (sqS (ifS (notB (trB (ov (fz (calE allG (consO (ov (fz (lcE (rng1 (consO (ov (cst (.int 64))) nilO)) (gN 9) (bT (opE neG (prdOk 9) (prdOk 2))) (fz (opE inG (ov (fz (callE f_law_apart (consC (fz (opE ixG (prdOk 5) (prdOk 9))) (consC (vrd 4) nilC))))) (ov (fz (tupE (consV (cst (.int 16)) (consV (cst (.int 32)) nilV))))))) [9]))) nilO)))))) (rtS (rv (cst (.bl false)))) skS)
    (sqS (forS (rng1 (consO (ov (cst (.int 9))) nilO)) (gN 6) (sqS (exS (callE f_law_next (plcC 1 nilC)))
    (sqS (asgS 10 (lrgE1 (ov (cst (.int 32)))))
    (sqS (asgS 13 (calE listG (consO (prdOk 4) nilO)))
    (sqS (forS (rng1 (consO (prdOk 6) nilO)) (gN 14) (sqS (asgS 19 (metE 10 popAtG (consV (fz (callE f_law_draw (plcC 1 (consC (fz (calE lenG (consO (prdOk 10) nilO))) nilC)))) nilV)))
    (sqS (ixS 13 (fz (opE subG (ov (cst (.int 1))) (ov (fz (opE ixG (prdOk 13) (prdOk 19)))))) (vrd 19))
    (ifS (bT (opE eqG (ov (fz (opE modG (ov (fz (calE intG (consO (prdOk 14) nilO)))) (ov (cst (.int 3)))))) (ov (cst (.int 2))))) (exS (callE f_law_next (plcC 1 nilC))) skS))))
    (sqS (asgS 18 (calE listG (consO (prdOk 13) nilO)))
    (ifS (orB (notB (trB (ov (fz (callE f_law_same (consC (fz (callE f_nearest (consC (vrd 18) nilC))) (consC (fz (ifE (bT (opE ltG (prdOk 6) (ov (cst (.int 8))))) (rv (vrd 3)) (rv (cst .non)))) nilC))))))) (bT (opE neG (prdOk 18) (prdOk 13)))) (rtS (rv (cst (.bl false)))) skS)))))))
    (sqS (exS (callE f_law_next (plcC 1 nilC)))
    (sqS (asgS 7 (lcE (rng1 (consO (ov (cst (.int 32))) nilO)) (gN 14) yesB (fz (callE f_law_draw (plcC 1 (consC (cst (.int 2)) nilC)))) [14]))
    (sqS (ifS (bT (opE eqG (ov (fz (callE f_law_draw (plcC 1 (consC (cst (.int 2)) nilC))))) (ov (cst (.int 0))))) (asgS 7 (lcE (lstI (vrd 4)) (gN 21) yesB (fz (ifE (bT (opE eqG (ov (fz (callE f_law_draw (plcC 1 (consC (cst (.int 4)) nilC))))) (ov (cst (.int 0))))) (opE subG (ov (cst (.int 1))) (prdOk 21)) (rv (vrd 21)))) [21])) skS)
    (sqS (asgS 8 (lstE nilV))
    (sqS (forS (rng1 (consO (ov (cst (.int 32))) nilO)) (gN 9) (exS (metE 8 appG (consV (fz (opE subG (ov (cst (.int 32))) (ov (fz (opE mulG (ov (cst (.int 2))) (ov (fz (callE f_law_apart (consC (fz (opE ixG (prdOk 5) (prdOk 9))) (consC (vrd 7) nilC)))))))))) nilV))))
    (sqS (asgS 10 (lrgE1 (ov (cst (.int 32)))))
    (sqS (asgS 11 (calE listG (consO (prdOk 4) nilO)))
    (sqS (asgS 12 (callE f_law_draw (plcC 1 (consC (cst (.int 17)) nilC))))
    (sqS (asgS 13 (callE f_law_draw (plcC 1 (consC (cst (.int 9)) nilC))))
    (sqS (forS (rng1 (consO (ov (fz (opE addG (prdOk 12) (prdOk 13)))) nilO)) (gN 14) (sqS (ifS (bT (opE eqG (ov (fz (opE modG (ov (fz (calE intG (consO (prdOk 14) nilO)))) (ov (cst (.int 5)))))) (ov (cst (.int 0))))) (exS (callE f_law_next (plcC 1 nilC))) skS)
    (sqS (asgS 19 (metE 10 popAtG (consV (fz (callE f_law_draw (plcC 1 (consC (fz (calE lenG (consO (prdOk 10) nilO))) nilC)))) nilV)))
    (ixS 11 (fz (ifE (bT (opE ltG (prdOk 14) (prdOk 12))) (rv (cst .non)) (opE subG (ov (cst (.int 1))) (ov (fz (opE ixG (prdOk 11) (prdOk 19))))))) (vrd 19)))))
    (sqS (asgS 15 (lstE nilV))
    (sqS (forS (rng1 (consO (ov (cst (.int 64))) nilO)) (gN 9) (sqS (asgS 20 (calE lenG (consO (ov (fz (lcE (rng1 (consO (ov (cst (.int 32))) nilO)) (gN 19) (andB (bT (opE isnG (ov (fz (opE ixG (prdOk 11) (prdOk 19)))) (ov (cst .non)))) (bT (opE neG (ov (fz (opE ixG (prdOk 11) (prdOk 19)))) (ov (fz (opE ixG (ov (fz (opE ixG (prdOk 5) (prdOk 9)))) (prdOk 19))))))) (vrd 19) [19]))) nilO)))
    (ifS (bT (opE ltG (ov (fz (opE addG (ov (fz (opE mulG (ov (cst (.int 2))) (prdOk 20)))) (prdOk 12)))) (ov (cst (.int 16))))) (exS (metE 15 appG (consV (fz (callE f_law_bits (consC (vrd 9) (consC (cst (.int 6)) nilC)))) nilV))) skS)))
    (sqS (ifS (orB (bT (opE gtG (ov (fz (calE lenG (consO (prdOk 15) nilO)))) (ov (cst (.int 1))))) (orB (notB (trB (ov (fz (callE f_law_same (consC (fz (callE f_nearest_read (consC (fz (calE listG (consO (prdOk 11) nilO))) nilC))) (consC (fz (ifE (bT (opE neG (prdOk 15) (ov (fz (lstE nilV))))) (opE ixG (prdOk 15) (ov (cst (.int 0)))) (rv (cst .non)))) nilC))))))) (andB (bT (opE ltG (ov (fz (opE addG (ov (fz (opE mulG (ov (cst (.int 2))) (prdOk 13)))) (prdOk 12)))) (ov (cst (.int 16))))) (bT (opE neG (prdOk 15) (ov (fz (lstE (consV (vrd 3) nilV))))))))) (rtS (rv (cst (.bl false)))) skS)
    (sqS (asgS 16 (lcE (rng1 (consO (ov (cst (.int 64))) nilO)) (gN 9) (bT (opE ltG (ov (fz (callE f_law_apart (consC (fz (opE ixG (prdOk 5) (prdOk 9))) (consC (vrd 7) nilC))))) (ov (cst (.int 8))))) (vrd 9) [9]))
    (sqS (asgS 17 (ifE (bT (opE neG (prdOk 16) (ov (fz (lstE nilV))))) (callE f_law_bits (consC (fz (opE ixG (prdOk 16) (ov (cst (.int 0))))) (consC (cst (.int 6)) nilC))) (rv (cst .non))))
    (rtS (andE (fz (opE ltG (ov (fz (calE lenG (consO (prdOk 16) nilO)))) (ov (cst (.int 2))))) (callE f_law_same (consC (fz (lstE (consV (fz (callE f_sums_of (consC (fz (calE listG (consO (prdOk 7) nilO))) nilC))) (consV (fz (callE f_nearest (consC (fz (calE listG (consO (prdOk 7) nilO))) nilC))) nilV)))) (consC (fz (lstE (consV (vrd 8) (consV (vrd 17) nilV)))) nilC))))))))))))))))))))))))))))
def f_law : FnS := fnS 21 b_law

def bits_of_p2b1 : Sls → Option Out := (exS (metE 2 appG (consV (fz (opE modG (prdOk 0) (ov (cst (.int 2))))) nilV)))
def bits_of_p2b2 : Sls → Option Out := (asgS 0 (opE fdivG (prdOk 0) (ov (cst (.int 2)))))
def bits_of_p2b : Sls → Option Out := (sqS bits_of_p2b1 bits_of_p2b2)
def bits_of_p2 : Sls → Option Out := (forS (rng1 (consO (prdOk 1) nilO)) (gN 3) bits_of_p2b)
def bits_of_p : Sls → Option Out := (sqS (asgS 2 (lstE nilV)) (sqS bits_of_p2 (rtS (unE revB (prdOk 2)))))
theorem b_bits_of_eq : b_bits_of = bits_of_p := rfl
def row_of_p2b1 : Sls → Option Out := (asgS 3 (callE f_bits_of (consC (vrd 2) (consC (cst (.int 5)) nilC))))
def row_of_p2b2e1 : M T := (fz (opE mulG (ov (fz (opE ixG (prdOk 3) (prdOk 4)))) (ov (fz (opE ixG (prdOk 0) (ov (fz (opE addG (prdOk 4) (ov (cst (.int 1)))))))))))
def row_of_p2b2 : Sls → Option Out := (exS (metE 1 appG (consV (fz (opE modG (ov (fz (opE addG (ov (fz (opE ixG (prdOk 0) (ov (cst (.int 0)))))) (ov (fz (calE sumA (consO (ov (fz (lcE (rng1 (consO (ov (cst (.int 5))) nilO)) (gN 4) yesB row_of_p2b2e1 [4]))) nilO))))))) (ov (cst (.int 2))))) nilV)))
def row_of_p2b : Sls → Option Out := (sqS row_of_p2b1 row_of_p2b2)
def row_of_p2 : Sls → Option Out := (forS (rng1 (consO (ov (cst (.int 32))) nilO)) (gN 2) row_of_p2b)
def row_of_p : Sls → Option Out := (sqS (asgS 1 (lstE nilV)) (sqS row_of_p2 (mvS 1)))
theorem b_row_of_eq : b_row_of = row_of_p := rfl
def sums_of_p1e1 : M T := (fz (opE subG (ov (cst (.int 1))) (ov (fz (opE mulG (ov (cst (.int 2))) (prdOk 5))))))
def sums_of_p1 : Sls → Option Out := (asgS 1 (lcE (lstI (vrd 0)) (gN 5) yesB sums_of_p1e1 [5]))
def sums_of_p3w : M Bool := (bT (opE ltG (prdOk 2) (ov (cst (.int 32)))))
def sums_of_p3b1 : Sls → Option Out := (asgS 3 (calE listG (consO (prdOk 1) nilO)))
def sums_of_p3b2bt1 : Sls → Option Out := (ixS 3 (fz (opE addG (ov (fz (opE ixG (prdOk 1) (prdOk 4)))) (ov (fz (opE ixG (prdOk 1) (ov (fz (opE addG (prdOk 4) (prdOk 2))))))))) (vrd 4))
def sums_of_p3b2bt2 : Sls → Option Out := (ixS 3 (fz (opE subG (ov (fz (opE ixG (prdOk 1) (prdOk 4)))) (ov (fz (opE ixG (prdOk 1) (ov (fz (opE addG (prdOk 4) (prdOk 2))))))))) (fz (opE addG (prdOk 4) (prdOk 2))))
def sums_of_p3b2bt : Sls → Option Out := (sqS sums_of_p3b2bt1 sums_of_p3b2bt2)
def sums_of_p3b2b : Sls → Option Out := (ifS (bT (opE eqG (ov (fz (opE modG (ov (fz (opE fdivG (prdOk 4) (prdOk 2)))) (ov (cst (.int 2)))))) (ov (cst (.int 0))))) sums_of_p3b2bt skS)
def sums_of_p3b2 : Sls → Option Out := (forS (rng1 (consO (ov (cst (.int 32))) nilO)) (gN 4) sums_of_p3b2b)
def sums_of_p3b4 : Sls → Option Out := (asgS 2 (opE mulG (ov (cst (.int 2))) (prdOk 2)))
def sums_of_p3b : Sls → Option Out := (sqS sums_of_p3b1 (sqS sums_of_p3b2 (sqS (asgS 1 (rv (vrd 3))) sums_of_p3b4)))
def sums_of_p3 : Sls → Option Out := (whS sums_of_p3w sums_of_p3b 1000)
def sums_of_p : Sls → Option Out := (sqS sums_of_p1 (sqS (asgS 2 (rv (cst (.int 1)))) (sqS sums_of_p3 (mvS 1))))
theorem b_sums_of_eq : b_sums_of = sums_of_p := rfl
def nearest_p1 : Sls → Option Out := (asgS 1 (callE f_sums_of (consC (vrd 0) nilC)))
def nearest_p2b1 : Sls → Option Out := (ifS (bT (opE geG (ov (fz (opE ixG (prdOk 1) (prdOk 2)))) (ov (fz (opE subG (ov (cst (.int 32))) (ov (cst (.int 14)))))))) (rtS (opE addG (ov (fz (lstE (consV (cst (.int 0)) nilV)))) (ov (fz (callE f_bits_of (consC (vrd 2) (consC (cst (.int 5)) nilC))))))) skS)
def nearest_p2b2 : Sls → Option Out := (ifS (bT (opE leG (ov (fz (opE ixG (prdOk 1) (prdOk 2)))) (ov (fz (opE subG (ov (cst (.int 14))) (ov (cst (.int 32)))))))) (rtS (opE addG (ov (fz (lstE (consV (cst (.int 1)) nilV)))) (ov (fz (callE f_bits_of (consC (vrd 2) (consC (cst (.int 5)) nilC))))))) skS)
def nearest_p2b : Sls → Option Out := (sqS nearest_p2b1 nearest_p2b2)
def nearest_p2 : Sls → Option Out := (forS (rng1 (consO (ov (cst (.int 32))) nilO)) (gN 2) nearest_p2b)
def nearest_p : Sls → Option Out := (sqS nearest_p1 (sqS nearest_p2 (rtS (rv (cst .non)))))
theorem b_nearest_eq : b_nearest = nearest_p := rfl
def nearest_read_p1c1 : M Bool := (bT (opE isG (prdOk 7) (ov (cst .non))))
def nearest_read_p1 : Sls → Option Out := (asgS 1 (calE lenG (consO (ov (fz (lcE (lstI (vrd 0)) (gN 7) nearest_read_p1c1 (vrd 7) [7]))) nilO)))
def nearest_read_p3b1 : Sls → Option Out := (asgS 4 (callE f_bits_of (consC (vrd 3) (consC (fz (opE addG (ov (cst (.int 5))) (ov (cst (.int 1))))) nilC))))
def nearest_read_p3b2 : Sls → Option Out := (asgS 5 (callE f_row_of (consC (vrd 4) nilC)))
def nearest_read_p3b3c1 : M Bool := (andB (bT (opE isnG (prdOk 7) (ov (cst .non)))) (bT (opE neG (prdOk 7) (ov (fz (opE ixG (prdOk 5) (prdOk 8)))))))
def nearest_read_p3b3 : Sls → Option Out := (asgS 6 (calE lenG (consO (ov (fz (lcE (enuI (consV (vrd 0) nilV)) (gT (gsCons (gN 8) (gsCons (gN 7) gsNil))) nearest_read_p3b3c1 (vrd 8) [8, 7]))) nilO)))
def nearest_read_p3b4 : Sls → Option Out := (ifS (bT (opE ltG (ov (fz (opE addG (ov (fz (opE mulG (ov (cst (.int 2))) (prdOk 6)))) (prdOk 1)))) (ov (fz (opE fdivG (ov (cst (.int 32))) (ov (cst (.int 2)))))))) (asgS 2 (rv (vrd 4))) skS)
def nearest_read_p3b : Sls → Option Out := (sqS nearest_read_p3b1 (sqS nearest_read_p3b2 (sqS nearest_read_p3b3 nearest_read_p3b4)))
def nearest_read_p3 : Sls → Option Out := (forS (rng1 (consO (ov (fz (opE mulG (ov (cst (.int 2))) (ov (cst (.int 32)))))) nilO)) (gN 3) nearest_read_p3b)
def nearest_read_p : Sls → Option Out := (sqS nearest_read_p1 (sqS (asgS 2 (rv (cst .non))) (sqS nearest_read_p3 (mvS 2))))
theorem b_nearest_read_eq : b_nearest_read = nearest_read_p := rfl
def law_bits_p2b1 : Sls → Option Out := (asgS 2 (opE addG (ov (fz (lstE (consV (fz (opE modG (ov (fz (calE intG (consO (prdOk 0) nilO)))) (ov (cst (.int 2))))) nilV)))) (prdOk 2)))
def law_bits_p2b2 : Sls → Option Out := (asgS 0 (opE fdivG (prdOk 0) (ov (cst (.int 2)))))
def law_bits_p2b : Sls → Option Out := (sqS law_bits_p2b1 law_bits_p2b2)
def law_bits_p2 : Sls → Option Out := (forS (rng1 (consO (prdOk 1) nilO)) (gN 3) law_bits_p2b)
def law_bits_p : Sls → Option Out := (sqS (asgS 2 (lstE nilV)) (sqS law_bits_p2 (mvS 2)))
theorem b_law_bits_eq : b_law_bits = law_bits_p := rfl
def law_row_p2b1 : Sls → Option Out := (asgS 3 (callE f_law_bits (consC (vrd 2) (consC (cst (.int 5)) nilC))))
def law_row_p2b2e1 : M T := (fz (opE mulG (ov (fz (opE ixG (prdOk 3) (prdOk 4)))) (ov (fz (opE ixG (prdOk 0) (ov (fz (opE addG (prdOk 4) (ov (cst (.int 1)))))))))))
def law_row_p2b2 : Sls → Option Out := (exS (metE 1 appG (consV (fz (opE modG (ov (fz (calE intG (consO (ov (fz (opE addG (ov (fz (opE ixG (prdOk 0) (ov (cst (.int 0)))))) (ov (fz (calE sumA (consO (ov (fz (lcE (rng1 (consO (ov (cst (.int 5))) nilO)) (gN 4) yesB law_row_p2b2e1 [4]))) nilO))))))) nilO)))) (ov (cst (.int 2))))) nilV)))
def law_row_p2b : Sls → Option Out := (sqS law_row_p2b1 law_row_p2b2)
def law_row_p2 : Sls → Option Out := (forS (rng1 (consO (ov (cst (.int 32))) nilO)) (gN 2) law_row_p2b)
def law_row_p : Sls → Option Out := (sqS (asgS 1 (lstE nilV)) (sqS law_row_p2 (mvS 1)))
theorem b_law_row_eq : b_law_row = law_row_p := rfl
def law_apart_pe1 : M T := (fz (calE intG (consO (ov (fz (opE neG (ov (fz (opE ixG (prdOk 0) (prdOk 2)))) (ov (fz (opE ixG (prdOk 1) (prdOk 2))))))) nilO)))
def law_apart_p : Sls → Option Out := (rtS (calE sumA (consO (ov (fz (lcE (rng1 (consO (ov (fz (calE lenG (consO (prdOk 0) nilO)))) nilO)) (gN 2) yesB law_apart_pe1 [2]))) nilO)))
theorem b_law_apart_eq : b_law_apart = law_apart_p := rfl
def law_p1 : Sls → Option Out := (asgS 1 (callE f_law_pool (consC (vrd 0) nilC)))
def law_p2 : Sls → Option Out := (asgS 2 (callE f_law_draw (plcC 1 (consC (cst (.int 64)) nilC))))
def law_p3 : Sls → Option Out := (asgS 3 (callE f_law_bits (consC (vrd 2) (consC (cst (.int 6)) nilC))))
def law_p4 : Sls → Option Out := (asgS 4 (callE f_law_row (consC (vrd 3) nilC)))
def law_p5 : Sls → Option Out := (ifS (notB (trB (ov (fz (callE f_law_same (consC (fz (callE f_row_of (consC (fz (calE listG (consO (prdOk 3) nilO))) nilC))) (consC (vrd 4) nilC))))))) (rtS (rv (cst (.bl false)))) skS)
def law_p6e1 : M T := (fz (callE f_law_row (consC (fz (callE f_law_bits (consC (vrd 9) (consC (cst (.int 6)) nilC)))) nilC)))
def law_p6 : Sls → Option Out := (asgS 5 (lcE (rng1 (consO (ov (cst (.int 64))) nilO)) (gN 9) yesB law_p6e1 [9]))
def law_p7c1 : M Bool := (bT (opE neG (prdOk 9) (prdOk 2)))
def law_p7e1 : M T := (fz (opE inG (ov (fz (callE f_law_apart (consC (fz (opE ixG (prdOk 5) (prdOk 9))) (consC (vrd 4) nilC))))) (ov (fz (tupE (consV (cst (.int 16)) (consV (cst (.int 32)) nilV)))))))
def law_p7 : Sls → Option Out := (ifS (notB (trB (ov (fz (calE allG (consO (ov (fz (lcE (rng1 (consO (ov (cst (.int 64))) nilO)) (gN 9) law_p7c1 law_p7e1 [9]))) nilO)))))) (rtS (rv (cst (.bl false)))) skS)
def law_p8b1 : Sls → Option Out := (exS (callE f_law_next (plcC 1 nilC)))
def law_p8b2 : Sls → Option Out := (asgS 10 (lrgE1 (ov (cst (.int 32)))))
def law_p8b3 : Sls → Option Out := (asgS 13 (calE listG (consO (prdOk 4) nilO)))
def law_p8b4b1 : Sls → Option Out := (asgS 19 (metE 10 popAtG (consV (fz (callE f_law_draw (plcC 1 (consC (fz (calE lenG (consO (prdOk 10) nilO))) nilC)))) nilV)))
def law_p8b4b2 : Sls → Option Out := (ixS 13 (fz (opE subG (ov (cst (.int 1))) (ov (fz (opE ixG (prdOk 13) (prdOk 19)))))) (vrd 19))
def law_p8b4b3 : Sls → Option Out := (ifS (bT (opE eqG (ov (fz (opE modG (ov (fz (calE intG (consO (prdOk 14) nilO)))) (ov (cst (.int 3)))))) (ov (cst (.int 2))))) (exS (callE f_law_next (plcC 1 nilC))) skS)
def law_p8b4b : Sls → Option Out := (sqS law_p8b4b1 (sqS law_p8b4b2 law_p8b4b3))
def law_p8b4 : Sls → Option Out := (forS (rng1 (consO (prdOk 6) nilO)) (gN 14) law_p8b4b)
def law_p8b5 : Sls → Option Out := (asgS 18 (calE listG (consO (prdOk 13) nilO)))
def law_p8b6 : Sls → Option Out := (ifS (orB (notB (trB (ov (fz (callE f_law_same (consC (fz (callE f_nearest (consC (vrd 18) nilC))) (consC (fz (ifE (bT (opE ltG (prdOk 6) (ov (cst (.int 8))))) (rv (vrd 3)) (rv (cst .non)))) nilC))))))) (bT (opE neG (prdOk 18) (prdOk 13)))) (rtS (rv (cst (.bl false)))) skS)
def law_p8b : Sls → Option Out := (sqS law_p8b1 (sqS law_p8b2 (sqS law_p8b3 (sqS law_p8b4 (sqS law_p8b5 law_p8b6)))))
def law_p8 : Sls → Option Out := (forS (rng1 (consO (ov (cst (.int 9))) nilO)) (gN 6) law_p8b)
def law_p9 : Sls → Option Out := (exS (callE f_law_next (plcC 1 nilC)))
def law_p10e1 : M T := (fz (callE f_law_draw (plcC 1 (consC (cst (.int 2)) nilC))))
def law_p10 : Sls → Option Out := (asgS 7 (lcE (rng1 (consO (ov (cst (.int 32))) nilO)) (gN 14) yesB law_p10e1 [14]))
def law_p11e1 : M T := (fz (ifE (bT (opE eqG (ov (fz (callE f_law_draw (plcC 1 (consC (cst (.int 4)) nilC))))) (ov (cst (.int 0))))) (opE subG (ov (cst (.int 1))) (prdOk 21)) (rv (vrd 21))))
def law_p11 : Sls → Option Out := (ifS (bT (opE eqG (ov (fz (callE f_law_draw (plcC 1 (consC (cst (.int 2)) nilC))))) (ov (cst (.int 0))))) (asgS 7 (lcE (lstI (vrd 4)) (gN 21) yesB law_p11e1 [21])) skS)
def law_p13b : Sls → Option Out := (exS (metE 8 appG (consV (fz (opE subG (ov (cst (.int 32))) (ov (fz (opE mulG (ov (cst (.int 2))) (ov (fz (callE f_law_apart (consC (fz (opE ixG (prdOk 5) (prdOk 9))) (consC (vrd 7) nilC)))))))))) nilV)))
def law_p13 : Sls → Option Out := (forS (rng1 (consO (ov (cst (.int 32))) nilO)) (gN 9) law_p13b)
def law_p14 : Sls → Option Out := (asgS 10 (lrgE1 (ov (cst (.int 32)))))
def law_p15 : Sls → Option Out := (asgS 11 (calE listG (consO (prdOk 4) nilO)))
def law_p16 : Sls → Option Out := (asgS 12 (callE f_law_draw (plcC 1 (consC (cst (.int 17)) nilC))))
def law_p17 : Sls → Option Out := (asgS 13 (callE f_law_draw (plcC 1 (consC (cst (.int 9)) nilC))))
def law_p18b1 : Sls → Option Out := (ifS (bT (opE eqG (ov (fz (opE modG (ov (fz (calE intG (consO (prdOk 14) nilO)))) (ov (cst (.int 5)))))) (ov (cst (.int 0))))) (exS (callE f_law_next (plcC 1 nilC))) skS)
def law_p18b2 : Sls → Option Out := (asgS 19 (metE 10 popAtG (consV (fz (callE f_law_draw (plcC 1 (consC (fz (calE lenG (consO (prdOk 10) nilO))) nilC)))) nilV)))
def law_p18b3 : Sls → Option Out := (ixS 11 (fz (ifE (bT (opE ltG (prdOk 14) (prdOk 12))) (rv (cst .non)) (opE subG (ov (cst (.int 1))) (ov (fz (opE ixG (prdOk 11) (prdOk 19))))))) (vrd 19))
def law_p18b : Sls → Option Out := (sqS law_p18b1 (sqS law_p18b2 law_p18b3))
def law_p18 : Sls → Option Out := (forS (rng1 (consO (ov (fz (opE addG (prdOk 12) (prdOk 13)))) nilO)) (gN 14) law_p18b)
def law_p20b1c1 : M Bool := (andB (bT (opE isnG (ov (fz (opE ixG (prdOk 11) (prdOk 19)))) (ov (cst .non)))) (bT (opE neG (ov (fz (opE ixG (prdOk 11) (prdOk 19)))) (ov (fz (opE ixG (ov (fz (opE ixG (prdOk 5) (prdOk 9)))) (prdOk 19)))))))
def law_p20b1 : Sls → Option Out := (asgS 20 (calE lenG (consO (ov (fz (lcE (rng1 (consO (ov (cst (.int 32))) nilO)) (gN 19) law_p20b1c1 (vrd 19) [19]))) nilO)))
def law_p20b2 : Sls → Option Out := (ifS (bT (opE ltG (ov (fz (opE addG (ov (fz (opE mulG (ov (cst (.int 2))) (prdOk 20)))) (prdOk 12)))) (ov (cst (.int 16))))) (exS (metE 15 appG (consV (fz (callE f_law_bits (consC (vrd 9) (consC (cst (.int 6)) nilC)))) nilV))) skS)
def law_p20b : Sls → Option Out := (sqS law_p20b1 law_p20b2)
def law_p20 : Sls → Option Out := (forS (rng1 (consO (ov (cst (.int 64))) nilO)) (gN 9) law_p20b)
def law_p21 : Sls → Option Out := (ifS (orB (bT (opE gtG (ov (fz (calE lenG (consO (prdOk 15) nilO)))) (ov (cst (.int 1))))) (orB (notB (trB (ov (fz (callE f_law_same (consC (fz (callE f_nearest_read (consC (fz (calE listG (consO (prdOk 11) nilO))) nilC))) (consC (fz (ifE (bT (opE neG (prdOk 15) (ov (fz (lstE nilV))))) (opE ixG (prdOk 15) (ov (cst (.int 0)))) (rv (cst .non)))) nilC))))))) (andB (bT (opE ltG (ov (fz (opE addG (ov (fz (opE mulG (ov (cst (.int 2))) (prdOk 13)))) (prdOk 12)))) (ov (cst (.int 16))))) (bT (opE neG (prdOk 15) (ov (fz (lstE (consV (vrd 3) nilV))))))))) (rtS (rv (cst (.bl false)))) skS)
def law_p22c1 : M Bool := (bT (opE ltG (ov (fz (callE f_law_apart (consC (fz (opE ixG (prdOk 5) (prdOk 9))) (consC (vrd 7) nilC))))) (ov (cst (.int 8)))))
def law_p22 : Sls → Option Out := (asgS 16 (lcE (rng1 (consO (ov (cst (.int 64))) nilO)) (gN 9) law_p22c1 (vrd 9) [9]))
def law_p23 : Sls → Option Out := (asgS 17 (ifE (bT (opE neG (prdOk 16) (ov (fz (lstE nilV))))) (callE f_law_bits (consC (fz (opE ixG (prdOk 16) (ov (cst (.int 0))))) (consC (cst (.int 6)) nilC))) (rv (cst .non))))
def law_p24 : Sls → Option Out := (rtS (andE (fz (opE ltG (ov (fz (calE lenG (consO (prdOk 16) nilO)))) (ov (cst (.int 2))))) (callE f_law_same (consC (fz (lstE (consV (fz (callE f_sums_of (consC (fz (calE listG (consO (prdOk 7) nilO))) nilC))) (consV (fz (callE f_nearest (consC (fz (calE listG (consO (prdOk 7) nilO))) nilC))) nilV)))) (consC (fz (lstE (consV (vrd 8) (consV (vrd 17) nilV)))) nilC)))))
def law_p : Sls → Option Out := (sqS law_p1 (sqS law_p2 (sqS law_p3 (sqS law_p4 (sqS law_p5 (sqS law_p6 (sqS law_p7 (sqS law_p8 (sqS law_p9 (sqS law_p10 (sqS law_p11 (sqS (asgS 8 (lstE nilV)) (sqS law_p13 (sqS law_p14 (sqS law_p15 (sqS law_p16 (sqS law_p17 (sqS law_p18 (sqS (asgS 15 (lstE nilV)) (sqS law_p20 (sqS law_p21 (sqS law_p22 (sqS law_p23 law_p24)))))))))))))))))))))))
theorem b_law_eq : b_law = law_p := rfl

abbrev PW : PySem.Program := PySem.Challenge.pw_lockwork_k73_whole_rows_that_mend_seven
def top (i : Nat) : Stmt := PW.main.body.getD i (.Pass ⟨0, 0, 0, 0⟩)
structure Bl (mg : Str → Option Value) : Prop where
  all_ : mg "all" = none
  bool_ : mg "bool" = none
  dict_ : mg "dict" = none
  enumerate_ : mg "enumerate" = none
  int_ : mg "int" = none
  isinstance_ : mg "isinstance" = none
  len_ : mg "len" = none
  list_ : mg "list" = none
  range_ : mg "range" = none
  str_ : mg "str" = none
  sum_ : mg "sum" = none
  tuple_ : mg "tuple" = none
  LONG_ : ∃ t, mg "LONG" = some (.int 32 t)
  WIDE_ : ∃ t, mg "WIDE" = some (.int 5 t)
abbrev FnP (K : PySem.W.Frag) (x : Str) (st : Stmt) (f : Addr) (fd : FuncData) : Prop := FunD K x x (defArgs st) (defBody st) (defScope st) [] [] f fd
variable {P : Program} {w : World} {K : PySem.W.Frag} {mg : Str → Option Value} {base : Heap}
abbrev s_bits_of : Stmt := top 3
theorem sc_bits_of : FnScope ["number", "wide", "found", "_"] ["number", "wide"] (defScope s_bits_of) := ⟨rfl, rfl, rfl, by decide +kernel, rfl, by decide +kernel, by decide +kernel⟩
theorem ok_bits_of {f : Addr} {fd : FuncData} (F : FnP K "bits_of" s_bits_of f fd) (hm : mg "bits_of" = some (.ref f)) (B : Bl mg)  : Fd P w K mg base 1 "bits_of" 2 f_bits_of := by
  refine fd_of (k := 0) (n := 2) (m := 2) (g := b_bits_of) F sc_bits_of hm (FunD.bindsN F fun _ _ _ _ _ _ us hl => match us, hl with | [_, _], _ => rfl) rfl rfl fun cdv A outer s H E hr => ?_
  exact ⟨_, (l_cons (st_set (i := 2) sc_bits_of.nd rfl (by first | exact .inl rfl | exact .inr rfl) (e_lst av_nil))
    (l_cons (st_for PassesOwn.never rfl (i_rng1 (by rfl) B.range_ (ao_cons (o_var 1) ao_nil)) (g_name (i := 3) sc_bits_of.nd rfl (by first | exact .inl rfl | exact .inr rfl)) (l_cons (st_expr (e_met 2 PySem.F.slot_list_append PySem.F.type_list_append mt_append s_app (av_cons (EE.v (e_op op_modN s_mod (o_var 0) (EV.o v_int))) av_nil)))
    (l_one (st_set (i := 0) sc_bits_of.nd rfl (by first | exact .inl rfl | exact .inr rfl) (e_op op_fdivG s_fdiv (o_var 0) (EV.o v_int))))))
    (l_one (st_ret (e_revB (o_var 2))))))⟩
abbrev s_row_of : Stmt := top 4
theorem sc_row_of : FnScope ["bits", "found", "place", "told", "at"] ["bits"] (defScope s_row_of) := ⟨rfl, rfl, rfl, by decide +kernel, rfl, by decide +kernel, by decide +kernel⟩
theorem ok_row_of {f : Addr} {fd : FuncData} (F : FnP K "row_of" s_row_of f fd) (hm : mg "row_of" = some (.ref f)) (B : Bl mg) (F_bits_of : Fd P w K mg base 1 "bits_of" 2 f_bits_of) : Fd P w K mg base 2 "row_of" 1 f_row_of := by
  refine fd_of (k := 1) (n := 1) (m := 4) (g := b_row_of) F sc_row_of hm (FunD.bindsN F fun _ _ _ _ _ _ us hl => match us, hl with | [_], _ => rfl) rfl rfl fun cdv A outer s H E hr => ?_
  exact ⟨_, (l_cons (st_set (i := 1) sc_row_of.nd rfl (by first | exact .inl rfl | exact .inr rfl) (e_lst av_nil))
    (l_cons (st_for PassesOwn.never rfl (i_rng1 (by rfl) B.range_ (ao_cons (EV.o (v_gint (by rfl) B.LONG_)) ao_nil)) (g_name (i := 2) sc_row_of.nd rfl (by first | exact .inl rfl | exact .inr rfl)) (l_cons (st_set (i := 3) sc_row_of.nd rfl (by first | exact .inl rfl | exact .inr rfl) (e_call F_bits_of (hr.mono (by decide)) (by rfl) (lenC_cons (lenC_cons lenC_nil)) (ac_cons (v_var 2) (ac_cons (v_gint (by rfl) B.WIDE_) ac_nil))))
    (l_one (st_expr (e_met 1 PySem.F.slot_list_append PySem.F.type_list_append mt_append s_app (av_cons (EE.v (e_op op_modN s_mod (EE.oo (e_op op_addG s_add (EE.oo (e_ix (ix_G (hu1 hr)) s_ix (o_var 0) (EV.o v_int) (fun _ _ => rfl))) (EE.oo (e_callB s_sumA (cr_sumA rfl) (by rfl) B.sum_ (by decide +kernel) (ao_cons (EE.oo (x_lc [4] rfl sc_row_of.nd (i_rng1 (by rfl) B.range_ (ao_cons (EV.o (v_gint (by rfl) B.WIDE_)) ao_nil)) (blkOk_by (own := [("at", 4)]) (by kernel_rfl)) (fun _ _ _ _ _ => ⟨_, (g_name (i := 4) sc_row_of.nd rfl (by first | exact .inl rfl | exact .inr rfl))⟩) (fun _ _ _ _ _ => ⟨_, t_nil⟩) (fun _ _ _ _ _ => ⟨_, (EE.v (e_op op_mulG s_mul (EE.oo (e_ix (ix_G (hu1 hr)) s_ix (o_var 3) (o_var 4) (fun _ _ => rfl))) (EE.oo (e_ix (ix_G (hu1 hr)) s_ix (o_var 0) (EE.oo (e_op op_addG s_add (o_var 4) (EV.o v_int))) (fun _ _ => rfl)))))⟩) (by decide))) ao_nil))))) (EV.o v_int))) av_nil))))))
    (l_one (st_mv 1))))⟩
abbrev s_sums_of : Stmt := top 5
theorem sc_sums_of : FnScope ["row", "found", "step", "further", "at", "bit"] ["row"] (defScope s_sums_of) := ⟨rfl, rfl, rfl, by decide +kernel, rfl, by decide +kernel, by decide +kernel⟩
theorem ok_sums_of {f : Addr} {fd : FuncData} (F : FnP K "sums_of" s_sums_of f fd) (hm : mg "sums_of" = some (.ref f)) (B : Bl mg)  : Fd P w K mg base 1 "sums_of" 1 f_sums_of := by
  refine fd_of (k := 0) (n := 1) (m := 5) (g := b_sums_of) F sc_sums_of hm (FunD.bindsN F fun _ _ _ _ _ _ us hl => match us, hl with | [_], _ => rfl) rfl rfl fun cdv A outer s H E hr => ?_
  exact ⟨_, (l_cons (sx_lc [5] (i := 1) rfl sc_sums_of.nd rfl rfl (sw_true rfl rfl rfl (by kernel_rfl)) (i_list (v_var 0)) (blkOk_by (own := [("bit", 5)]) (by kernel_rfl)) (fun _ _ _ _ _ => ⟨_, (g_name (i := 5) sc_sums_of.nd rfl (by first | exact .inl rfl | exact .inr rfl))⟩) (fun _ _ _ _ _ => ⟨_, t_nil⟩) (fun _ _ _ _ _ => ⟨_, (EE.v (e_op op_sub s_sub (EV.o v_int) (EE.oo (e_op op_mulG s_mul (EV.o v_int) (o_var 5)))))⟩) (by decide))
    (l_cons (st_set (i := 2) sc_sums_of.nd rfl (by first | exact .inl rfl | exact .inr rfl) (EV.ee v_int))
    (l_cons (st_while 1000 PassesOwn.never (b_cmp (op_ltG hr.units0) s_lt (o_var 2) (EV.o (v_gint (by rfl) B.LONG_)) (nomark _)) (l_cons (st_set (i := 3) sc_sums_of.nd rfl (by first | exact .inl rfl | exact .inr rfl) (e_callT s_list call_list_of (by rfl) B.list_ (by decide +kernel) (ao_cons (o_var 1) ao_nil)))
    (l_cons (st_for PassesOwn.never rfl (i_rng1 (by rfl) B.range_ (ao_cons (EV.o (v_gint (by rfl) B.LONG_)) ao_nil)) (g_name (i := 4) sc_sums_of.nd rfl (by first | exact .inl rfl | exact .inr rfl)) (l_one (st_if (b_cmp (op_eqD hr.units) s_eq (EE.oo (e_op op_modN s_mod (EE.oo (e_op op_fdivG s_fdiv (o_var 4) (o_var 2))) (EV.o v_int))) (EV.o v_int) (nomark _)) (l_cons (st_ix 3 (hu1 hr) (EE.v (e_op op_addG s_add (EE.oo (e_ix (ix_G (hu1 hr)) s_ix (o_var 1) (o_var 4) (fun _ _ => rfl))) (EE.oo (e_ix (ix_G (hu1 hr)) s_ix (o_var 1) (EE.oo (e_op op_addG s_add (o_var 4) (o_var 2))) (fun _ _ => rfl))))) (v_var 4))
    (l_one (st_ix 3 (hu1 hr) (EE.v (e_op op_sub s_sub (EE.oo (e_ix (ix_G (hu1 hr)) s_ix (o_var 1) (o_var 4) (fun _ _ => rfl))) (EE.oo (e_ix (ix_G (hu1 hr)) s_ix (o_var 1) (EE.oo (e_op op_addG s_add (o_var 4) (o_var 2))) (fun _ _ => rfl))))) (EE.v (e_op op_addG s_add (o_var 4) (o_var 2)))))) l_nil)))
    (l_cons (st_set (i := 1) sc_sums_of.nd rfl (by first | exact .inl rfl | exact .inr rfl) (EV.ee (v_var 3)))
    (l_one (st_set (i := 2) sc_sums_of.nd rfl (by first | exact .inl rfl | exact .inr rfl) (e_op op_mulG s_mul (EV.o v_int) (o_var 2))))))))
    (l_one (st_mv 1)))))⟩
abbrev s_nearest : Stmt := top 6
theorem sc_nearest : FnScope ["row", "told", "number"] ["row"] (defScope s_nearest) := ⟨rfl, rfl, rfl, by decide +kernel, rfl, by decide +kernel, by decide +kernel⟩
theorem ok_nearest {f : Addr} {fd : FuncData} (F : FnP K "nearest" s_nearest f fd) (hm : mg "nearest" = some (.ref f)) (B : Bl mg) (F_bits_of : Fd P w K mg base 1 "bits_of" 2 f_bits_of) (F_sums_of : Fd P w K mg base 1 "sums_of" 1 f_sums_of) : Fd P w K mg base 2 "nearest" 1 f_nearest := by
  refine fd_of (k := 1) (n := 1) (m := 2) (g := b_nearest) F sc_nearest hm (FunD.bindsN F fun _ _ _ _ _ _ us hl => match us, hl with | [_], _ => rfl) rfl rfl fun cdv A outer s H E hr => ?_
  exact ⟨_, (l_cons (st_set (i := 1) sc_nearest.nd rfl (by first | exact .inl rfl | exact .inr rfl) (e_call F_sums_of (hr.mono (by decide)) (by rfl) (lenC_cons lenC_nil) (ac_cons (v_var 0) ac_nil)))
    (l_cons (st_for PassesOwn.never rfl (i_rng1 (by rfl) B.range_ (ao_cons (EV.o (v_gint (by rfl) B.LONG_)) ao_nil)) (g_name (i := 2) sc_nearest.nd rfl (by first | exact .inl rfl | exact .inr rfl)) (l_cons (st_if (b_cmp op_ge s_ge (EE.oo (e_ix (ix_G (hu1 hr)) s_ix (o_var 1) (o_var 2) (fun _ _ => rfl))) (EE.oo (e_op op_sub s_sub (EV.o (v_gint (by rfl) B.LONG_)) (EV.o v_int))) (nomark _)) (l_one (st_ret (e_op op_addG s_add (EE.oo (e_lst (av_cons v_int av_nil))) (EE.oo (e_call F_bits_of (hr.mono (by decide)) (by rfl) (lenC_cons (lenC_cons lenC_nil)) (ac_cons (v_var 2) (ac_cons (v_gint (by rfl) B.WIDE_) ac_nil))))))) l_nil)
    (l_one (st_if (b_cmp op_le s_le (EE.oo (e_ix (ix_G (hu1 hr)) s_ix (o_var 1) (o_var 2) (fun _ _ => rfl))) (EE.oo (e_op op_sub s_sub (EV.o v_int) (EV.o (v_gint (by rfl) B.LONG_)))) (nomark _)) (l_one (st_ret (e_op op_addG s_add (EE.oo (e_lst (av_cons v_int av_nil))) (EE.oo (e_call F_bits_of (hr.mono (by decide)) (by rfl) (lenC_cons (lenC_cons lenC_nil)) (ac_cons (v_var 2) (ac_cons (v_gint (by rfl) B.WIDE_) ac_nil))))))) l_nil))))
    (l_one (st_ret (EV.ee v_non)))))⟩
abbrev s_nearest_read : Stmt := top 7
theorem sc_nearest_read : FnScope ["row", "unread", "best", "number", "bits", "told", "wrong", "bit", "at"] ["row"] (defScope s_nearest_read) := ⟨rfl, rfl, rfl, by decide +kernel, rfl, by decide +kernel, by decide +kernel⟩
theorem ok_nearest_read {f : Addr} {fd : FuncData} (F : FnP K "nearest_read" s_nearest_read f fd) (hm : mg "nearest_read" = some (.ref f)) (B : Bl mg) (F_bits_of : Fd P w K mg base 1 "bits_of" 2 f_bits_of) (F_row_of : Fd P w K mg base 2 "row_of" 1 f_row_of) : Fd P w K mg base 3 "nearest_read" 1 f_nearest_read := by
  refine fd_of (k := 2) (n := 1) (m := 8) (g := b_nearest_read) F sc_nearest_read hm (FunD.bindsN F fun _ _ _ _ _ _ us hl => match us, hl with | [_], _ => rfl) rfl rfl fun cdv A outer s H E hr => ?_
  exact ⟨_, (l_cons (st_set (i := 1) sc_nearest_read.nd rfl (by first | exact .inl rfl | exact .inr rfl) (e_callB s_len call_lenG (by rfl) B.len_ (by decide +kernel) (ao_cons (EE.oo (x_lc [7] rfl sc_nearest_read.nd (i_list (v_var 0)) (blkOk_by (own := [("bit", 7)]) (by kernel_rfl)) (fun _ _ _ _ _ => ⟨_, (g_name (i := 7) sc_nearest_read.nd rfl (by first | exact .inl rfl | exact .inr rfl))⟩) (fun _ _ _ _ _ => ⟨_, (t_one (b_cmp op_isS s_is (o_var 7) (EV.o v_non) (nomark _)))⟩) (fun _ _ _ _ _ => ⟨_, (v_var 7)⟩) (by decide))) ao_nil)))
    (l_cons (st_set (i := 2) sc_nearest_read.nd rfl (by first | exact .inl rfl | exact .inr rfl) (EV.ee v_non))
    (l_cons (st_for PassesOwn.never rfl (i_rng1 (by rfl) B.range_ (ao_cons (EE.oo (e_op op_mulG s_mul (EV.o v_int) (EV.o (v_gint (by rfl) B.LONG_)))) ao_nil)) (g_name (i := 3) sc_nearest_read.nd rfl (by first | exact .inl rfl | exact .inr rfl)) (l_cons (st_set (i := 4) sc_nearest_read.nd rfl (by first | exact .inl rfl | exact .inr rfl) (e_call F_bits_of (hr.mono (by decide)) (by rfl) (lenC_cons (lenC_cons lenC_nil)) (ac_cons (v_var 3) (ac_cons (EE.v (e_op op_addG s_add (EV.o (v_gint (by rfl) B.WIDE_)) (EV.o v_int))) ac_nil))))
    (l_cons (st_set (i := 5) sc_nearest_read.nd rfl (by first | exact .inl rfl | exact .inr rfl) (e_call F_row_of (hr.mono (by decide)) (by rfl) (lenC_cons lenC_nil) (ac_cons (v_var 4) ac_nil)))
    (l_cons (st_set (i := 6) sc_nearest_read.nd rfl (by first | exact .inl rfl | exact .inr rfl) (e_callB s_len call_lenG (by rfl) B.len_ (by decide +kernel) (ao_cons (EE.oo (x_lc [8, 7] rfl sc_nearest_read.nd (i_enum (by rfl) B.enumerate_ (av_cons (v_var 0) av_nil)) (blkOk_by (own := [("at", 8), ("bit", 7)]) (by kernel_rfl)) (fun _ _ _ _ _ => ⟨_, (g_tup rfl (gs_cons (g_name (i := 8) sc_nearest_read.nd rfl (by first | exact .inl rfl | exact .inr rfl)) (gs_cons (g_name (i := 7) sc_nearest_read.nd rfl (by first | exact .inl rfl | exact .inr rfl)) gs_nil)))⟩) (fun _ _ _ _ _ => ⟨_, (t_one (EW.bb (w_and (b_cmp op_isnS s_isn (o_var 7) (EV.o v_non) (nomark _)) (w_and1 (b_cmp (op_neD hr.units) s_ne (o_var 7) (EE.oo (e_ix (ix_G (hu1 hr)) s_ix (o_var 5) (o_var 8) (fun _ _ => rfl))) (nomark _))))))⟩) (fun _ _ _ _ _ => ⟨_, (v_var 8)⟩) (by decide))) ao_nil)))
    (l_one (st_if (b_cmp (op_ltG hr.units0) s_lt (EE.oo (e_op op_addG s_add (EE.oo (e_op op_mulG s_mul (EV.o v_int) (o_var 6))) (o_var 1))) (EE.oo (e_op op_fdivG s_fdiv (EV.o (v_gint (by rfl) B.LONG_)) (EV.o v_int))) (nomark _)) (l_one (st_set (i := 2) sc_nearest_read.nd rfl (by first | exact .inl rfl | exact .inr rfl) (EV.ee (v_var 4)))) l_nil))))))
    (l_one (st_mv 2)))))⟩
abbrev s_law_mixed : Stmt := top 9
theorem sc_law_mixed : FnScope ["number", "place", "first", "second", "third"] ["number", "place"] (defScope s_law_mixed) := ⟨rfl, rfl, rfl, by decide +kernel, rfl, by decide +kernel, by decide +kernel⟩
theorem ok_law_mixed {f : Addr} {fd : FuncData} (F : FnP K "_law_mixed" s_law_mixed f fd) (hm : mg "_law_mixed" = some (.ref f)) (B : Bl mg)  : Fd P w K mg base 1 "_law_mixed" 2 f_law_mixed := by
  refine fd_of (k := 0) (n := 2) (m := 3) (g := b_law_mixed) F sc_law_mixed hm (FunD.bindsN F fun _ _ _ _ _ _ us hl => match us, hl with | [_, _], _ => rfl) rfl rfl fun cdv A outer s H E hr => ?_
  exact ⟨_, (l_cons (st_set (i := 2) sc_law_mixed.nd rfl (by first | exact .inl rfl | exact .inr rfl) (e_op op_modN s_mod (EE.oo (e_callT s_int1 call_int1 (by rfl) B.int_ (by decide +kernel) (ao_cons (EE.oo (e_op op_addG s_add (EE.oo (e_op op_addG s_add (EE.oo (e_op op_mulG s_mul (o_var 0) (EV.o v_int))) (EE.oo (e_op op_mulG s_mul (o_var 1) (EV.o v_int))))) (EV.o v_int))) ao_nil))) (EV.o v_int)))
    (l_cons (st_set (i := 3) sc_law_mixed.nd rfl (by first | exact .inl rfl | exact .inr rfl) (e_op op_modN s_mod (EE.oo (e_callT s_int1 call_int1 (by rfl) B.int_ (by decide +kernel) (ao_cons (EE.oo (e_op op_addG s_add (EE.oo (e_op op_addG s_add (EE.oo (e_op op_mulG s_mul (o_var 2) (o_var 2))) (EE.oo (e_op op_mulG s_mul (EV.o v_int) (o_var 2))))) (o_var 1))) ao_nil))) (EV.o v_int)))
    (l_cons (st_set (i := 4) sc_law_mixed.nd rfl (by first | exact .inl rfl | exact .inr rfl) (e_op op_modN s_mod (EE.oo (e_callT s_int1 call_int1 (by rfl) B.int_ (by decide +kernel) (ao_cons (EE.oo (e_op op_addG s_add (EE.oo (e_op op_mulG s_mul (o_var 3) (o_var 3))) (o_var 2))) ao_nil))) (EV.o v_int)))
    (l_one (st_ret (e_op op_addG s_add (EE.oo (e_op op_mulG s_mul (o_var 3) (EV.o v_int))) (o_var 4)))))))⟩
abbrev s_law_rest : Stmt := top 10
theorem sc_law_rest : FnScope ["script", "place", "fills", "number"] ["script", "place", "fills"] (defScope s_law_rest) := ⟨rfl, rfl, rfl, by decide +kernel, rfl, by decide +kernel, by decide +kernel⟩
theorem ok_law_rest {f : Addr} {fd : FuncData} (F : FnP K "_law_rest" s_law_rest f fd) (hm : mg "_law_rest" = some (.ref f)) (B : Bl mg) (F_law_mixed : Fd P w K mg base 1 "_law_mixed" 2 f_law_mixed) : Fd P w K mg base 2 "_law_rest" 3 f_law_rest := by
  refine fd_of (k := 1) (n := 3) (m := 1) (g := b_law_rest) F sc_law_rest hm (FunD.bindsN F fun _ _ _ _ _ _ us hl => match us, hl with | [_, _, _], _ => rfl) rfl rfl fun cdv A outer s H E hr => ?_
  exact ⟨_, (l_cons (st_set (i := 3) sc_law_rest.nd rfl (by first | exact .inl rfl | exact .inr rfl) (EV.ee v_int))
    (l_cons (st_if (b_cmp op_gt s_gt (EE.oo (e_callB s_len call_lenG (by rfl) B.len_ (by decide +kernel) (ao_cons (o_var 0) ao_nil))) (EV.o v_int) (nomark _)) (l_one (st_set (i := 3) sc_law_rest.nd rfl (by first | exact .inl rfl | exact .inr rfl) (e_callT s_int1 call_int1 (by rfl) B.int_ (by decide +kernel) (ao_cons (EE.oo (e_ix (ix_G (hu1 hr)) s_ix (o_var 0) (EE.oo (e_op op_modN s_mod (EE.oo (e_callT s_int1 call_int1 (by rfl) B.int_ (by decide +kernel) (ao_cons (o_var 1) ao_nil))) (EE.oo (e_callB s_len call_lenG (by rfl) B.len_ (by decide +kernel) (ao_cons (o_var 0) ao_nil))))) (fun _ _ => rfl))) ao_nil)))) l_nil)
    (l_cons (st_if (b_cmp (op_ltG hr.units0) s_lt (o_var 3) (EV.o v_int) (nomark _)) (l_one (st_set (i := 3) sc_law_rest.nd rfl (by first | exact .inl rfl | exact .inr rfl) (e_op op_sub s_sub (EV.o v_int) (EE.oo (e_op op_mulG s_mul (EV.o v_int) (o_var 3)))))) l_nil)
    (l_cons (st_if (EW.bb (w_and (b_cmp (op_eqD hr.units) s_eq (o_var 2) (EV.o v_int) (nomark _)) (w_and (b_cmp (op_ltG hr.units0) s_lt (o_var 1) (EE.oo (e_callB s_len call_lenG (by rfl) B.len_ (by decide +kernel) (ao_cons (o_var 0) ao_nil))) (nomark _)) (w_and1 (b_cmp op_ge s_ge (o_var 3) (EE.oo (e_op op_pow s_pow (EV.o v_int) (EV.o v_int))) (nomark _)))))) (l_one (st_ret (e_op op_sub s_sub (o_var 3) (EE.oo (e_op op_pow s_pow (EV.o v_int) (EV.o v_int)))))) l_nil)
    (l_one (st_ret (e_call F_law_mixed (hr.mono (by decide)) (by rfl) (lenC_cons (lenC_cons lenC_nil)) (ac_cons (EE.v (e_op op_addG s_add (o_var 3) (EE.oo (e_op op_mulG s_mul (o_var 2) (EV.o v_int))))) (ac_cons (v_var 1) ac_nil)))))))))⟩
abbrev s_law_pool : Stmt := top 11
theorem sc_law_pool : FnScope ["script"] ["script"] (defScope s_law_pool) := ⟨rfl, rfl, rfl, by decide +kernel, rfl, by decide +kernel, by decide +kernel⟩
theorem ok_law_pool {f : Addr} {fd : FuncData} (F : FnP K "_law_pool" s_law_pool f fd) (hm : mg "_law_pool" = some (.ref f)) (B : Bl mg) (F_law_rest : Fd P w K mg base 2 "_law_rest" 3 f_law_rest) : Fd P w K mg base 3 "_law_pool" 1 f_law_pool := by
  refine fd_of (k := 2) (n := 1) (m := 0) (g := b_law_pool) F sc_law_pool hm (FunD.bindsN F fun _ _ _ _ _ _ us hl => match us, hl with | [_], _ => rfl) rfl rfl fun cdv A outer s H E hr => ?_
  exact ⟨_, (l_one (st_ret (e_lst (av_cons (v_var 0) (av_cons v_int (av_cons (EE.v (e_call F_law_rest (hr.mono (by decide)) (by rfl) (lenC_cons (lenC_cons (lenC_cons lenC_nil))) (ac_cons (v_var 0) (ac_cons v_int (ac_cons v_int ac_nil))))) (av_cons v_int av_nil)))))))⟩
abbrev s_law_next : Stmt := top 12
theorem sc_law_next : FnScope ["pool"] ["pool"] (defScope s_law_next) := ⟨rfl, rfl, rfl, by decide +kernel, rfl, by decide +kernel, by decide +kernel⟩
theorem ok_law_next {f : Addr} {fd : FuncData} (F : FnP K "_law_next" s_law_next f fd) (hm : mg "_law_next" = some (.ref f)) (B : Bl mg) (F_law_rest : Fd P w K mg base 2 "_law_rest" 3 f_law_rest) : Fd P w K mg base 3 "_law_next" 1 f_law_next := by
  refine fd_of (k := 2) (n := 1) (m := 0) (g := b_law_next) F sc_law_next hm (FunD.bindsN F fun _ _ _ _ _ _ us hl => match us, hl with | [_], _ => rfl) rfl rfl fun cdv A outer s H E hr => ?_
  exact ⟨_, (l_cons (st_ix 0 (hu1 hr) (EE.v (e_op op_addG s_add (EE.oo (e_ix (ix_G (hu1 hr)) s_ix (o_var 0) (EV.o v_int) (fun _ _ => rfl))) (EV.o v_int))) v_int)
    (l_cons (st_ix 0 (hu1 hr) (EE.v (e_call F_law_rest (hr.mono (by decide)) (by rfl) (lenC_cons (lenC_cons (lenC_cons lenC_nil))) (ac_cons (EE.v (e_ix (ix_G (hu1 hr)) s_ix (o_var 0) (EV.o v_int) (fun _ _ => rfl))) (ac_cons (EE.v (e_ix (ix_G (hu1 hr)) s_ix (o_var 0) (EV.o v_int) (fun _ _ => rfl))) (ac_cons v_int ac_nil))))) v_int)
    (l_one (st_ix 0 (hu1 hr) v_int v_int))))⟩
abbrev s_law_draw : Stmt := top 13
theorem sc_law_draw : FnScope ["pool", "limit", "value"] ["pool", "limit"] (defScope s_law_draw) := ⟨rfl, rfl, rfl, by decide +kernel, rfl, by decide +kernel, by decide +kernel⟩
theorem ok_law_draw {f : Addr} {fd : FuncData} (F : FnP K "_law_draw" s_law_draw f fd) (hm : mg "_law_draw" = some (.ref f)) (B : Bl mg) (F_law_rest : Fd P w K mg base 2 "_law_rest" 3 f_law_rest) : Fd P w K mg base 3 "_law_draw" 2 f_law_draw := by
  refine fd_of (k := 2) (n := 2) (m := 1) (g := b_law_draw) F sc_law_draw hm (FunD.bindsN F fun _ _ _ _ _ _ us hl => match us, hl with | [_, _], _ => rfl) rfl rfl fun cdv A outer s H E hr => ?_
  exact ⟨_, (l_cons (st_if (b_cmp op_le s_le (EE.oo (e_ix (ix_G (hu1 hr)) s_ix (o_var 0) (EV.o v_int) (fun _ _ => rfl))) (EV.o v_int) (nomark _)) (l_cons (st_ix 0 (hu1 hr) (EE.v (e_op op_addG s_add (EE.oo (e_ix (ix_G (hu1 hr)) s_ix (o_var 0) (EV.o v_int) (fun _ _ => rfl))) (EV.o v_int))) v_int)
    (l_one (st_ix 0 (hu1 hr) (EE.v (e_call F_law_rest (hr.mono (by decide)) (by rfl) (lenC_cons (lenC_cons (lenC_cons lenC_nil))) (ac_cons (EE.v (e_ix (ix_G (hu1 hr)) s_ix (o_var 0) (EV.o v_int) (fun _ _ => rfl))) (ac_cons (EE.v (e_ix (ix_G (hu1 hr)) s_ix (o_var 0) (EV.o v_int) (fun _ _ => rfl))) (ac_cons (EE.v (e_ix (ix_G (hu1 hr)) s_ix (o_var 0) (EV.o v_int) (fun _ _ => rfl))) ac_nil))))) v_int))) l_nil)
    (l_cons (st_set (i := 2) sc_law_draw.nd rfl (by first | exact .inl rfl | exact .inr rfl) (e_op op_modN s_mod (EE.oo (e_callT s_int1 call_int1 (by rfl) B.int_ (by decide +kernel) (ao_cons (EE.oo (e_ix (ix_G (hu1 hr)) s_ix (o_var 0) (EV.o v_int) (fun _ _ => rfl))) ao_nil))) (o_var 1)))
    (l_cons (st_ix 0 (hu1 hr) (EE.v (e_op op_fdivG s_fdiv (EE.oo (e_callT s_int1 call_int1 (by rfl) B.int_ (by decide +kernel) (ao_cons (EE.oo (e_ix (ix_G (hu1 hr)) s_ix (o_var 0) (EV.o v_int) (fun _ _ => rfl))) ao_nil))) (o_var 1))) v_int)
    (l_one (st_mv 2)))))⟩
abbrev s_law_same : Stmt := top 14
theorem sc_law_same : FnScope ["answer", "due", "key", "k"] ["answer", "due"] (defScope s_law_same) := ⟨rfl, rfl, rfl, by decide +kernel, rfl, by decide +kernel, by decide +kernel⟩
theorem okN_law_same {f : Addr} {fd : FuncData} (F : FnP K "_law_same" s_law_same f fd) (hm : mg "_law_same" = some (.ref f)) (B : Bl mg)  : ∀ n, Fd P w K mg base (0 + n + 1) "_law_same" 2 (fN_law_same n)
  | 0 => fd_none F sc_law_same hm (FunD.bindsN F fun _ _ _ _ _ _ us hl => match us, hl with | [_, _], _ => rfl) rfl
  | n + 1 => by
    have FR := okN_law_same F hm B  n
    refine fd_of (k := 0 + n + 1) (n := 2) (m := 2) (g := b_law_same (fN_law_same n)) F sc_law_same hm (FunD.bindsN F fun _ _ _ _ _ _ us hl => match us, hl with | [_, _], _ => rfl) rfl rfl fun cdv A outer s H E hr => ?_
    exact ⟨_, (l_cons (st_if (b_tru (EE.oo (e_isi (ty := "dict") (by decide) (by rfl) B.isinstance_ (by rfl) B.dict_ (by decide +kernel) (o_var 1))) (fun _ => rfl)) (l_cons (st_if (EW.bb (w_or (b_not (b_tru (EE.oo (e_isi (ty := "dict") (by decide) (by rfl) B.isinstance_ (by rfl) B.dict_ (by decide +kernel) (o_var 0))) (fun _ => rfl))) (w_or1 (b_cmp (op_neD hr.units) s_ne (EE.oo (e_callB s_len call_lenG (by rfl) B.len_ (by decide +kernel) (ao_cons (o_var 0) ao_nil))) (EE.oo (e_callB s_len call_lenG (by rfl) B.len_ (by decide +kernel) (ao_cons (o_var 1) ao_nil))) (nomark _))))) (l_one (st_ret (EV.ee v_bl))) l_nil)
    (l_one (st_ret (e_callB s_all (cr_all rfl) (by rfl) B.all_ (by decide +kernel) (ao_cons (EE.oo (x_lcD [2]  1 rfl sc_law_same.nd (blkOk_by (own := [("key", 2)]) (by kernel_rfl)) (fun _ _ _ _ _ => ⟨_, (g_name (i := 2) sc_law_same.nd rfl (by first | exact .inl rfl | exact .inr rfl))⟩) (fun _ _ _ _ _ => ⟨_, t_nil⟩) (fun _ _ _ _ _ => ⟨_, (EE.v (e_and (EE.v (e_cmp (op_inG (hu65 hr)) s_in (o_var 2) (o_var 0) (by rfl))) (e_one (e_call FR (hr.mono (Nat.le_refl _)) (by rfl) (lenC_cons (lenC_cons lenC_nil)) (ac_cons (EE.v (e_ix (ix_G (hu1 hr)) s_ix (o_var 0) (o_var 2) (fun _ _ => rfl))) (ac_cons (EE.v (e_ix (ix_G (hu1 hr)) s_ix (o_var 1) (o_var 2) (fun _ _ => rfl))) ac_nil))))))⟩) (by decide))) ao_nil))))) l_nil)
    (l_cons (st_if (EW.bb (w_or (b_tru (EE.oo (e_isi (ty := "list") (by decide) (by rfl) B.isinstance_ (by rfl) B.list_ (by decide +kernel) (o_var 1))) (fun _ => rfl)) (w_or1 (b_tru (EE.oo (e_isi (ty := "tuple") (by decide) (by rfl) B.isinstance_ (by rfl) B.tuple_ (by decide +kernel) (o_var 1))) (fun _ => rfl))))) (l_cons (st_if (EW.bb (w_or (b_cmp (op_neD hr.units) s_ne (EE.oo (e_isi (ty := "list") (by decide) (by rfl) B.isinstance_ (by rfl) B.list_ (by decide +kernel) (o_var 1))) (EE.oo (e_isi (ty := "list") (by decide) (by rfl) B.isinstance_ (by rfl) B.list_ (by decide +kernel) (o_var 0))) (nomark _)) (w_or1 (b_cmp (op_neD hr.units) s_ne (EE.oo (e_isi (ty := "tuple") (by decide) (by rfl) B.isinstance_ (by rfl) B.tuple_ (by decide +kernel) (o_var 1))) (EE.oo (e_isi (ty := "tuple") (by decide) (by rfl) B.isinstance_ (by rfl) B.tuple_ (by decide +kernel) (o_var 0))) (nomark _))))) (l_one (st_ret (EV.ee v_bl))) l_nil)
    (l_one (st_ret (e_and (EE.v (e_cmp (op_eqD hr.units) s_eq (EE.oo (e_callB s_len call_lenG (by rfl) B.len_ (by decide +kernel) (ao_cons (o_var 0) ao_nil))) (EE.oo (e_callB s_len call_lenG (by rfl) B.len_ (by decide +kernel) (ao_cons (o_var 1) ao_nil))) (nomark _))) (e_one (e_callB s_all (cr_all rfl) (by rfl) B.all_ (by decide +kernel) (ao_cons (EE.oo (x_lc [3] rfl sc_law_same.nd (i_rng1 (by rfl) B.range_ (ao_cons (EE.oo (e_callB s_len call_lenG (by rfl) B.len_ (by decide +kernel) (ao_cons (o_var 1) ao_nil))) ao_nil)) (blkOk_by (own := [("k", 3)]) (by kernel_rfl)) (fun _ _ _ _ _ => ⟨_, (g_name (i := 3) sc_law_same.nd rfl (by first | exact .inl rfl | exact .inr rfl))⟩) (fun _ _ _ _ _ => ⟨_, t_nil⟩) (fun _ _ _ _ _ => ⟨_, (EE.v (e_call FR (hr.mono (Nat.le_refl _)) (by rfl) (lenC_cons (lenC_cons lenC_nil)) (ac_cons (EE.v (e_ix (ix_G (hu1 hr)) s_ix (o_var 0) (o_var 3) (fun _ _ => rfl))) (ac_cons (EE.v (e_ix (ix_G (hu1 hr)) s_ix (o_var 1) (o_var 3) (fun _ _ => rfl))) ac_nil))))⟩) (by decide))) ao_nil))))))) l_nil)
    (l_cons (st_if (b_tru (EE.oo (e_isi (ty := "str") (by decide) (by rfl) B.isinstance_ (by rfl) B.str_ (by decide +kernel) (o_var 1))) (fun _ => rfl)) (l_one (st_ret (e_and (EE.v (e_isi (ty := "str") (by decide) (by rfl) B.isinstance_ (by rfl) B.str_ (by decide +kernel) (o_var 0))) (e_one (e_cmp (op_eqD hr.units) s_eq (o_var 0) (o_var 1) (nomark _)))))) l_nil)
    (l_cons (st_if (EW.bb (w_or (b_cmp op_isS s_is (o_var 1) (EV.o v_non) (nomark _)) (w_or (b_cmp op_isS s_is (o_var 1) (EV.o v_bl) (nomark _)) (w_or1 (b_cmp op_isS s_is (o_var 1) (EV.o v_bl) (nomark _)))))) (l_one (st_ret (e_or (EE.v (e_and (EE.v (e_cmp op_isS s_is (o_var 1) (EV.o v_non) (nomark _))) (e_one (e_cmp op_isS s_is (o_var 0) (EV.o v_non) (nomark _))))) (e_or (EE.v (e_and (EE.v (e_cmp op_isS s_is (o_var 1) (EV.o v_bl) (nomark _))) (e_one (e_cmp op_isS s_is (o_var 0) (EV.o v_bl) (nomark _))))) (e_one (e_and (EE.v (e_cmp op_isS s_is (o_var 1) (EV.o v_bl) (nomark _))) (e_one (e_cmp op_isS s_is (o_var 0) (EV.o v_bl) (nomark _))))))))) l_nil)
    (l_one (st_ret (e_and (EE.v (e_isi (ty := "int") (by decide) (by rfl) B.isinstance_ (by rfl) B.int_ (by decide +kernel) (o_var 0))) (e_and (EE.v (e_not (EE.oo (e_isi (ty := "bool") (by decide) (by rfl) B.isinstance_ (by rfl) B.bool_ (by decide +kernel) (o_var 0))))) (e_one (e_cmp (op_eqD hr.units) s_eq (o_var 0) (o_var 1) (nomark _)))))))))))⟩
theorem ok_law_same {f : Addr} {fd : FuncData} (F : FnP K "_law_same" s_law_same f fd) (hm : mg "_law_same" = some (.ref f)) (B : Bl mg)  : Fd P w K mg base 6 "_law_same" 2 f_law_same := okN_law_same F hm B  5
abbrev s_law_bits : Stmt := top 15
theorem sc_law_bits : FnScope ["number", "wide", "found", "k"] ["number", "wide"] (defScope s_law_bits) := ⟨rfl, rfl, rfl, by decide +kernel, rfl, by decide +kernel, by decide +kernel⟩
theorem ok_law_bits {f : Addr} {fd : FuncData} (F : FnP K "_law_bits" s_law_bits f fd) (hm : mg "_law_bits" = some (.ref f)) (B : Bl mg)  : Fd P w K mg base 1 "_law_bits" 2 f_law_bits := by
  refine fd_of (k := 0) (n := 2) (m := 2) (g := b_law_bits) F sc_law_bits hm (FunD.bindsN F fun _ _ _ _ _ _ us hl => match us, hl with | [_, _], _ => rfl) rfl rfl fun cdv A outer s H E hr => ?_
  exact ⟨_, (l_cons (st_set (i := 2) sc_law_bits.nd rfl (by first | exact .inl rfl | exact .inr rfl) (e_lst av_nil))
    (l_cons (st_for PassesOwn.never rfl (i_rng1 (by rfl) B.range_ (ao_cons (o_var 1) ao_nil)) (g_name (i := 3) sc_law_bits.nd rfl (by first | exact .inl rfl | exact .inr rfl)) (l_cons (st_set (i := 2) sc_law_bits.nd rfl (by first | exact .inl rfl | exact .inr rfl) (e_op op_addG s_add (EE.oo (e_lst (av_cons (EE.v (e_op op_modN s_mod (EE.oo (e_callT s_int1 call_int1 (by rfl) B.int_ (by decide +kernel) (ao_cons (o_var 0) ao_nil))) (EV.o v_int))) av_nil))) (o_var 2)))
    (l_one (st_set (i := 0) sc_law_bits.nd rfl (by first | exact .inl rfl | exact .inr rfl) (e_op op_fdivG s_fdiv (o_var 0) (EV.o v_int))))))
    (l_one (st_mv 2))))⟩
abbrev s_law_row : Stmt := top 16
theorem sc_law_row : FnScope ["bits", "found", "place", "told", "k"] ["bits"] (defScope s_law_row) := ⟨rfl, rfl, rfl, by decide +kernel, rfl, by decide +kernel, by decide +kernel⟩
theorem ok_law_row {f : Addr} {fd : FuncData} (F : FnP K "_law_row" s_law_row f fd) (hm : mg "_law_row" = some (.ref f)) (B : Bl mg) (F_law_bits : Fd P w K mg base 1 "_law_bits" 2 f_law_bits) : Fd P w K mg base 2 "_law_row" 1 f_law_row := by
  refine fd_of (k := 1) (n := 1) (m := 4) (g := b_law_row) F sc_law_row hm (FunD.bindsN F fun _ _ _ _ _ _ us hl => match us, hl with | [_], _ => rfl) rfl rfl fun cdv A outer s H E hr => ?_
  exact ⟨_, (l_cons (st_set (i := 1) sc_law_row.nd rfl (by first | exact .inl rfl | exact .inr rfl) (e_lst av_nil))
    (l_cons (st_for PassesOwn.never rfl (i_rng1 (by rfl) B.range_ (ao_cons (EV.o v_int) ao_nil)) (g_name (i := 2) sc_law_row.nd rfl (by first | exact .inl rfl | exact .inr rfl)) (l_cons (st_set (i := 3) sc_law_row.nd rfl (by first | exact .inl rfl | exact .inr rfl) (e_call F_law_bits (hr.mono (by decide)) (by rfl) (lenC_cons (lenC_cons lenC_nil)) (ac_cons (v_var 2) (ac_cons v_int ac_nil))))
    (l_one (st_expr (e_met 1 PySem.F.slot_list_append PySem.F.type_list_append mt_append s_app (av_cons (EE.v (e_op op_modN s_mod (EE.oo (e_callT s_int1 call_int1 (by rfl) B.int_ (by decide +kernel) (ao_cons (EE.oo (e_op op_addG s_add (EE.oo (e_ix (ix_G (hu1 hr)) s_ix (o_var 0) (EV.o v_int) (fun _ _ => rfl))) (EE.oo (e_callB s_sumA (cr_sumA rfl) (by rfl) B.sum_ (by decide +kernel) (ao_cons (EE.oo (x_lc [4] rfl sc_law_row.nd (i_rng1 (by rfl) B.range_ (ao_cons (EV.o v_int) ao_nil)) (blkOk_by (own := [("k", 4)]) (by kernel_rfl)) (fun _ _ _ _ _ => ⟨_, (g_name (i := 4) sc_law_row.nd rfl (by first | exact .inl rfl | exact .inr rfl))⟩) (fun _ _ _ _ _ => ⟨_, t_nil⟩) (fun _ _ _ _ _ => ⟨_, (EE.v (e_op op_mulG s_mul (EE.oo (e_ix (ix_G (hu1 hr)) s_ix (o_var 3) (o_var 4) (fun _ _ => rfl))) (EE.oo (e_ix (ix_G (hu1 hr)) s_ix (o_var 0) (EE.oo (e_op op_addG s_add (o_var 4) (EV.o v_int))) (fun _ _ => rfl)))))⟩) (by decide))) ao_nil))))) ao_nil))) (EV.o v_int))) av_nil))))))
    (l_one (st_mv 1))))⟩
abbrev s_law_apart : Stmt := top 17
theorem sc_law_apart : FnScope ["one", "other", "k"] ["one", "other"] (defScope s_law_apart) := ⟨rfl, rfl, rfl, by decide +kernel, rfl, by decide +kernel, by decide +kernel⟩
theorem ok_law_apart {f : Addr} {fd : FuncData} (F : FnP K "_law_apart" s_law_apart f fd) (hm : mg "_law_apart" = some (.ref f)) (B : Bl mg)  : Fd P w K mg base 1 "_law_apart" 2 f_law_apart := by
  refine fd_of (k := 0) (n := 2) (m := 1) (g := b_law_apart) F sc_law_apart hm (FunD.bindsN F fun _ _ _ _ _ _ us hl => match us, hl with | [_, _], _ => rfl) rfl rfl fun cdv A outer s H E hr => ?_
  exact ⟨_, (l_one (st_ret (e_callB s_sumA (cr_sumA rfl) (by rfl) B.sum_ (by decide +kernel) (ao_cons (EE.oo (x_lc [2] rfl sc_law_apart.nd (i_rng1 (by rfl) B.range_ (ao_cons (EE.oo (e_callB s_len call_lenG (by rfl) B.len_ (by decide +kernel) (ao_cons (o_var 0) ao_nil))) ao_nil)) (blkOk_by (own := [("k", 2)]) (by kernel_rfl)) (fun _ _ _ _ _ => ⟨_, (g_name (i := 2) sc_law_apart.nd rfl (by first | exact .inl rfl | exact .inr rfl))⟩) (fun _ _ _ _ _ => ⟨_, t_nil⟩) (fun _ _ _ _ _ => ⟨_, (EE.v (e_callT s_int1 call_int1 (by rfl) B.int_ (by decide +kernel) (ao_cons (EE.oo (e_cmp (op_neD hr.units) s_ne (EE.oo (e_ix (ix_G (hu1 hr)) s_ix (o_var 0) (o_var 2) (fun _ _ => rfl))) (EE.oo (e_ix (ix_G (hu1 hr)) s_ix (o_var 1) (o_var 2) (fun _ _ => rfl))) (nomark _))) ao_nil)))⟩) (by decide))) ao_nil))))⟩
abbrev s_law : Stmt := top 18
theorem sc_law : FnScope ["script", "pool", "number", "bits", "row", "every", "many", "drawn", "sums", "other", "places", "heard", "unread", "wrong", "k", "fits", "near", "due", "handed", "at", "missed", "bit"] ["script"] (defScope s_law) := ⟨rfl, rfl, rfl, by decide +kernel, rfl, by decide +kernel, by decide +kernel⟩
theorem ok_law {f : Addr} {fd : FuncData} (F : FnP K "law" s_law f fd) (B : Bl mg) (F_row_of : Fd P w K mg base 2 "row_of" 1 f_row_of) (F_sums_of : Fd P w K mg base 1 "sums_of" 1 f_sums_of) (F_nearest : Fd P w K mg base 2 "nearest" 1 f_nearest) (F_nearest_read : Fd P w K mg base 3 "nearest_read" 1 f_nearest_read) (F_law_pool : Fd P w K mg base 3 "_law_pool" 1 f_law_pool) (F_law_next : Fd P w K mg base 3 "_law_next" 1 f_law_next) (F_law_draw : Fd P w K mg base 3 "_law_draw" 2 f_law_draw) (F_law_same : Fd P w K mg base 6 "_law_same" 2 f_law_same) (F_law_bits : Fd P w K mg base 1 "_law_bits" 2 f_law_bits) (F_law_row : Fd P w K mg base 2 "_law_row" 1 f_law_row) (F_law_apart : Fd P w K mg base 1 "_law_apart" 2 f_law_apart) : FnOk P w K mg base CX0 7 f fd ["script"] (spT K 1 f_law) := by
  refine ok_of (k := 6) (n := 1) (m := 21) (g := b_law) F sc_law rfl rfl fun cdv A outer s H E hr => ?_
  exact ⟨_, (l_cons (st_set (i := 1) sc_law.nd rfl (by first | exact .inl rfl | exact .inr rfl) (e_call F_law_pool (hr.mono (by decide)) (by rfl) (lenC_cons lenC_nil) (ac_cons (v_var 0) ac_nil)))
    (l_cons (st_set (i := 2) sc_law.nd rfl (by first | exact .inl rfl | exact .inr rfl) (e_call F_law_draw (hr.mono (by decide)) (by rfl) (lenC_plc (lenC_cons lenC_nil)) (ac_plc 1 (ac_cons v_int ac_nil))))
    (l_cons (st_set (i := 3) sc_law.nd rfl (by first | exact .inl rfl | exact .inr rfl) (e_call F_law_bits (hr.mono (by decide)) (by rfl) (lenC_cons (lenC_cons lenC_nil)) (ac_cons (v_var 2) (ac_cons v_int ac_nil))))
    (l_cons (st_set (i := 4) sc_law.nd rfl (by first | exact .inl rfl | exact .inr rfl) (e_call F_law_row (hr.mono (by decide)) (by rfl) (lenC_cons lenC_nil) (ac_cons (v_var 3) ac_nil)))
    (l_cons (st_if (b_not (b_tru (EE.oo (e_call F_law_same (hr.mono (by decide)) (by rfl) (lenC_cons (lenC_cons lenC_nil)) (ac_cons (EE.v (e_call F_row_of (hr.mono (by decide)) (by rfl) (lenC_cons lenC_nil) (ac_cons (EE.v (e_callT s_list call_list_of (by rfl) B.list_ (by decide +kernel) (ao_cons (o_var 3) ao_nil))) ac_nil))) (ac_cons (v_var 4) ac_nil)))) (fun _ => rfl))) (l_one (st_ret (EV.ee v_bl))) l_nil)
    (l_cons (st_set (i := 5) sc_law.nd rfl (by first | exact .inl rfl | exact .inr rfl) (x_lc [9] rfl sc_law.nd (i_rng1 (by rfl) B.range_ (ao_cons (EV.o v_int) ao_nil)) (blkOk_by (own := [("other", 9)]) (by kernel_rfl)) (fun _ _ _ _ _ => ⟨_, (g_name (i := 9) sc_law.nd rfl (by first | exact .inl rfl | exact .inr rfl))⟩) (fun _ _ _ _ _ => ⟨_, t_nil⟩) (fun _ _ _ _ _ => ⟨_, (EE.v (e_call F_law_row (hr.mono (by decide)) (by rfl) (lenC_cons lenC_nil) (ac_cons (EE.v (e_call F_law_bits (hr.mono (by decide)) (by rfl) (lenC_cons (lenC_cons lenC_nil)) (ac_cons (v_var 9) (ac_cons v_int ac_nil)))) ac_nil)))⟩) (by decide)))
    (l_cons (st_if (b_not (b_tru (EE.oo (e_callB s_all (cr_all rfl) (by rfl) B.all_ (by decide +kernel) (ao_cons (EE.oo (x_lc [9] rfl sc_law.nd (i_rng1 (by rfl) B.range_ (ao_cons (EV.o v_int) ao_nil)) (blkOk_by (own := [("other", 9)]) (by kernel_rfl)) (fun _ _ _ _ _ => ⟨_, (g_name (i := 9) sc_law.nd rfl (by first | exact .inl rfl | exact .inr rfl))⟩) (fun _ _ _ _ _ => ⟨_, (t_one (b_cmp (op_neD hr.units) s_ne (o_var 9) (o_var 2) (nomark _)))⟩) (fun _ _ _ _ _ => ⟨_, (EE.v (e_cmp (op_inG (hu65 hr)) s_in (EE.oo (e_call F_law_apart (hr.mono (by decide)) (by rfl) (lenC_cons (lenC_cons lenC_nil)) (ac_cons (EE.v (e_ix (ix_G (hu1 hr)) s_ix (o_var 5) (o_var 9) (fun _ _ => rfl))) (ac_cons (v_var 4) ac_nil)))) (EE.oo (e_tup (av_cons v_int (av_cons v_int av_nil)))) (by rfl)))⟩) (by decide))) ao_nil))) (fun _ => rfl))) (l_one (st_ret (EV.ee v_bl))) l_nil)
    (l_cons (st_for PassesOwn.never rfl (i_rng1 (by rfl) B.range_ (ao_cons (EV.o v_int) ao_nil)) (g_name (i := 6) sc_law.nd rfl (by first | exact .inl rfl | exact .inr rfl)) (l_cons (st_expr (e_call F_law_next (hr.mono (by decide)) (by rfl) (lenC_plc lenC_nil) (ac_plc 1 ac_nil)))
    (l_cons (st_set (i := 10) sc_law.nd rfl (by first | exact .inl rfl | exact .inr rfl) (e_listRg1 rfl (by rfl) B.list_ (by rfl) B.range_ (EV.o v_int)))
    (l_cons (st_set (i := 13) sc_law.nd rfl (by first | exact .inl rfl | exact .inr rfl) (e_callT s_list call_list_of (by rfl) B.list_ (by decide +kernel) (ao_cons (o_var 4) ao_nil)))
    (l_cons (st_for PassesOwn.never rfl (i_rng1 (by rfl) B.range_ (ao_cons (o_var 6) ao_nil)) (g_name (i := 14) sc_law.nd rfl (by first | exact .inl rfl | exact .inr rfl)) (l_cons (st_set (i := 19) sc_law.nd rfl (by first | exact .inl rfl | exact .inr rfl) (e_met 10 PySem.F.slot_list_pop PySem.F.type_list_pop mt_popAt s_popAt (av_cons (EE.v (e_call F_law_draw (hr.mono (by decide)) (by rfl) (lenC_plc (lenC_cons lenC_nil)) (ac_plc 1 (ac_cons (EE.v (e_callB s_len call_lenG (by rfl) B.len_ (by decide +kernel) (ao_cons (o_var 10) ao_nil))) ac_nil)))) av_nil)))
    (l_cons (st_ix 13 (hu1 hr) (EE.v (e_op op_sub s_sub (EV.o v_int) (EE.oo (e_ix (ix_G (hu1 hr)) s_ix (o_var 13) (o_var 19) (fun _ _ => rfl))))) (v_var 19))
    (l_one (st_if (b_cmp (op_eqD hr.units) s_eq (EE.oo (e_op op_modN s_mod (EE.oo (e_callT s_int1 call_int1 (by rfl) B.int_ (by decide +kernel) (ao_cons (o_var 14) ao_nil))) (EV.o v_int))) (EV.o v_int) (nomark _)) (l_one (st_expr (e_call F_law_next (hr.mono (by decide)) (by rfl) (lenC_plc lenC_nil) (ac_plc 1 ac_nil)))) l_nil)))))
    (l_cons (st_set (i := 18) sc_law.nd rfl (by first | exact .inl rfl | exact .inr rfl) (e_callT s_list call_list_of (by rfl) B.list_ (by decide +kernel) (ao_cons (o_var 13) ao_nil)))
    (l_one (st_if (EW.bb (w_or (b_not (b_tru (EE.oo (e_call F_law_same (hr.mono (by decide)) (by rfl) (lenC_cons (lenC_cons lenC_nil)) (ac_cons (EE.v (e_call F_nearest (hr.mono (by decide)) (by rfl) (lenC_cons lenC_nil) (ac_cons (v_var 18) ac_nil))) (ac_cons (EE.v (e_if (b_cmp (op_ltG hr.units0) s_lt (o_var 6) (EV.o v_int) (nomark _)) (EV.ee (v_var 3)) (EV.ee v_non))) ac_nil)))) (fun _ => rfl))) (w_or1 (b_cmp (op_neD hr.units) s_ne (o_var 18) (o_var 13) (nomark _))))) (l_one (st_ret (EV.ee v_bl))) l_nil))))))))
    (l_cons (st_expr (e_call F_law_next (hr.mono (by decide)) (by rfl) (lenC_plc lenC_nil) (ac_plc 1 ac_nil)))
    (l_cons (st_set (i := 7) sc_law.nd rfl (by first | exact .inl rfl | exact .inr rfl) (x_lc [14] rfl sc_law.nd (i_rng1 (by rfl) B.range_ (ao_cons (EV.o v_int) ao_nil)) (blkOk_by (own := [("k", 14)]) (by kernel_rfl)) (fun _ _ _ _ _ => ⟨_, (g_name (i := 14) sc_law.nd rfl (by first | exact .inl rfl | exact .inr rfl))⟩) (fun _ _ _ _ _ => ⟨_, t_nil⟩) (fun _ _ _ _ _ => ⟨_, (EE.v (e_call F_law_draw (hr.mono (by decide)) (by rfl) (lenC_plc (lenC_cons lenC_nil)) (ac_plc 1 (ac_cons v_int ac_nil))))⟩) (by decide)))
    (l_cons (st_if (b_cmp (op_eqD hr.units) s_eq (EE.oo (e_call F_law_draw (hr.mono (by decide)) (by rfl) (lenC_plc (lenC_cons lenC_nil)) (ac_plc 1 (ac_cons v_int ac_nil)))) (EV.o v_int) (nomark _)) (l_one (st_set (i := 7) sc_law.nd rfl (by first | exact .inl rfl | exact .inr rfl) (x_lc [21] rfl sc_law.nd (i_list (v_var 4)) (blkOk_by (own := [("bit", 21)]) (by kernel_rfl)) (fun _ _ _ _ _ => ⟨_, (g_name (i := 21) sc_law.nd rfl (by first | exact .inl rfl | exact .inr rfl))⟩) (fun _ _ _ _ _ => ⟨_, t_nil⟩) (fun _ _ _ _ _ => ⟨_, (EE.v (e_if (b_cmp (op_eqD hr.units) s_eq (EE.oo (e_call F_law_draw (hr.mono (by decide)) (by rfl) (lenC_plc (lenC_cons lenC_nil)) (ac_plc 1 (ac_cons v_int ac_nil)))) (EV.o v_int) (nomark _)) (e_op op_sub s_sub (EV.o v_int) (o_var 21)) (EV.ee (v_var 21))))⟩) (by decide)))) l_nil)
    (l_cons (st_set (i := 8) sc_law.nd rfl (by first | exact .inl rfl | exact .inr rfl) (e_lst av_nil))
    (l_cons (st_for PassesOwn.never rfl (i_rng1 (by rfl) B.range_ (ao_cons (EV.o v_int) ao_nil)) (g_name (i := 9) sc_law.nd rfl (by first | exact .inl rfl | exact .inr rfl)) (l_one (st_expr (e_met 8 PySem.F.slot_list_append PySem.F.type_list_append mt_append s_app (av_cons (EE.v (e_op op_sub s_sub (EV.o v_int) (EE.oo (e_op op_mulG s_mul (EV.o v_int) (EE.oo (e_call F_law_apart (hr.mono (by decide)) (by rfl) (lenC_cons (lenC_cons lenC_nil)) (ac_cons (EE.v (e_ix (ix_G (hu1 hr)) s_ix (o_var 5) (o_var 9) (fun _ _ => rfl))) (ac_cons (v_var 7) ac_nil)))))))) av_nil)))))
    (l_cons (st_set (i := 10) sc_law.nd rfl (by first | exact .inl rfl | exact .inr rfl) (e_listRg1 rfl (by rfl) B.list_ (by rfl) B.range_ (EV.o v_int)))
    (l_cons (st_set (i := 11) sc_law.nd rfl (by first | exact .inl rfl | exact .inr rfl) (e_callT s_list call_list_of (by rfl) B.list_ (by decide +kernel) (ao_cons (o_var 4) ao_nil)))
    (l_cons (st_set (i := 12) sc_law.nd rfl (by first | exact .inl rfl | exact .inr rfl) (e_call F_law_draw (hr.mono (by decide)) (by rfl) (lenC_plc (lenC_cons lenC_nil)) (ac_plc 1 (ac_cons v_int ac_nil))))
    (l_cons (st_set (i := 13) sc_law.nd rfl (by first | exact .inl rfl | exact .inr rfl) (e_call F_law_draw (hr.mono (by decide)) (by rfl) (lenC_plc (lenC_cons lenC_nil)) (ac_plc 1 (ac_cons v_int ac_nil))))
    (l_cons (st_for PassesOwn.never rfl (i_rng1 (by rfl) B.range_ (ao_cons (EE.oo (e_op op_addG s_add (o_var 12) (o_var 13))) ao_nil)) (g_name (i := 14) sc_law.nd rfl (by first | exact .inl rfl | exact .inr rfl)) (l_cons (st_if (b_cmp (op_eqD hr.units) s_eq (EE.oo (e_op op_modN s_mod (EE.oo (e_callT s_int1 call_int1 (by rfl) B.int_ (by decide +kernel) (ao_cons (o_var 14) ao_nil))) (EV.o v_int))) (EV.o v_int) (nomark _)) (l_one (st_expr (e_call F_law_next (hr.mono (by decide)) (by rfl) (lenC_plc lenC_nil) (ac_plc 1 ac_nil)))) l_nil)
    (l_cons (st_set (i := 19) sc_law.nd rfl (by first | exact .inl rfl | exact .inr rfl) (e_met 10 PySem.F.slot_list_pop PySem.F.type_list_pop mt_popAt s_popAt (av_cons (EE.v (e_call F_law_draw (hr.mono (by decide)) (by rfl) (lenC_plc (lenC_cons lenC_nil)) (ac_plc 1 (ac_cons (EE.v (e_callB s_len call_lenG (by rfl) B.len_ (by decide +kernel) (ao_cons (o_var 10) ao_nil))) ac_nil)))) av_nil)))
    (l_one (st_ix 11 (hu1 hr) (EE.v (e_if (b_cmp (op_ltG hr.units0) s_lt (o_var 14) (o_var 12) (nomark _)) (EV.ee v_non) (e_op op_sub s_sub (EV.o v_int) (EE.oo (e_ix (ix_G (hu1 hr)) s_ix (o_var 11) (o_var 19) (fun _ _ => rfl)))))) (v_var 19))))))
    (l_cons (st_set (i := 15) sc_law.nd rfl (by first | exact .inl rfl | exact .inr rfl) (e_lst av_nil))
    (l_cons (st_for PassesOwn.never rfl (i_rng1 (by rfl) B.range_ (ao_cons (EV.o v_int) ao_nil)) (g_name (i := 9) sc_law.nd rfl (by first | exact .inl rfl | exact .inr rfl)) (l_cons (st_set (i := 20) sc_law.nd rfl (by first | exact .inl rfl | exact .inr rfl) (e_callB s_len call_lenG (by rfl) B.len_ (by decide +kernel) (ao_cons (EE.oo (x_lc [19] rfl sc_law.nd (i_rng1 (by rfl) B.range_ (ao_cons (EV.o v_int) ao_nil)) (blkOk_by (own := [("at", 19)]) (by kernel_rfl)) (fun _ _ _ _ _ => ⟨_, (g_name (i := 19) sc_law.nd rfl (by first | exact .inl rfl | exact .inr rfl))⟩) (fun _ _ _ _ _ => ⟨_, (t_one (EW.bb (w_and (b_cmp op_isnS s_isn (EE.oo (e_ix (ix_G (hu1 hr)) s_ix (o_var 11) (o_var 19) (fun _ _ => rfl))) (EV.o v_non) (nomark _)) (w_and1 (b_cmp (op_neD hr.units) s_ne (EE.oo (e_ix (ix_G (hu1 hr)) s_ix (o_var 11) (o_var 19) (fun _ _ => rfl))) (EE.oo (e_ix (ix_G (hu1 hr)) s_ix (EE.oo (e_ix (ix_G (hu1 hr)) s_ix (o_var 5) (o_var 9) (fun _ _ => rfl))) (o_var 19) (fun _ _ => rfl))) (nomark _))))))⟩) (fun _ _ _ _ _ => ⟨_, (v_var 19)⟩) (by decide))) ao_nil)))
    (l_one (st_if (b_cmp (op_ltG hr.units0) s_lt (EE.oo (e_op op_addG s_add (EE.oo (e_op op_mulG s_mul (EV.o v_int) (o_var 20))) (o_var 12))) (EV.o v_int) (nomark _)) (l_one (st_expr (e_met 15 PySem.F.slot_list_append PySem.F.type_list_append mt_append s_app (av_cons (EE.v (e_call F_law_bits (hr.mono (by decide)) (by rfl) (lenC_cons (lenC_cons lenC_nil)) (ac_cons (v_var 9) (ac_cons v_int ac_nil)))) av_nil)))) l_nil))))
    (l_cons (st_if (EW.bb (w_or (b_cmp op_gt s_gt (EE.oo (e_callB s_len call_lenG (by rfl) B.len_ (by decide +kernel) (ao_cons (o_var 15) ao_nil))) (EV.o v_int) (nomark _)) (w_or (b_not (b_tru (EE.oo (e_call F_law_same (hr.mono (by decide)) (by rfl) (lenC_cons (lenC_cons lenC_nil)) (ac_cons (EE.v (e_call F_nearest_read (hr.mono (by decide)) (by rfl) (lenC_cons lenC_nil) (ac_cons (EE.v (e_callT s_list call_list_of (by rfl) B.list_ (by decide +kernel) (ao_cons (o_var 11) ao_nil))) ac_nil))) (ac_cons (EE.v (e_if (b_cmp (op_neD hr.units) s_ne (o_var 15) (EE.oo (e_lst av_nil)) (nomark _)) (e_ix (ix_G (hu1 hr)) s_ix (o_var 15) (EV.o v_int) (fun _ _ => rfl)) (EV.ee v_non))) ac_nil)))) (fun _ => rfl))) (w_or1 (EW.bb (w_and (b_cmp (op_ltG hr.units0) s_lt (EE.oo (e_op op_addG s_add (EE.oo (e_op op_mulG s_mul (EV.o v_int) (o_var 13))) (o_var 12))) (EV.o v_int) (nomark _)) (w_and1 (b_cmp (op_neD hr.units) s_ne (o_var 15) (EE.oo (e_lst (av_cons (v_var 3) av_nil))) (nomark _))))))))) (l_one (st_ret (EV.ee v_bl))) l_nil)
    (l_cons (sx_lc [9] (i := 16) rfl sc_law.nd rfl rfl (sw_true rfl rfl rfl (by kernel_rfl)) (i_rng1 (by rfl) B.range_ (ao_cons (EV.o v_int) ao_nil)) (blkOk_by (own := [("other", 9)]) (by kernel_rfl)) (fun _ _ _ _ _ => ⟨_, (g_name (i := 9) sc_law.nd rfl (by first | exact .inl rfl | exact .inr rfl))⟩) (fun _ _ _ _ _ => ⟨_, (t_one (b_cmp (op_ltG hr.units0) s_lt (EE.oo (e_call F_law_apart (hr.mono (by decide)) (by rfl) (lenC_cons (lenC_cons lenC_nil)) (ac_cons (EE.v (e_ix (ix_G (hu1 hr)) s_ix (o_var 5) (o_var 9) (fun _ _ => rfl))) (ac_cons (v_var 7) ac_nil)))) (EV.o v_int) (nomark _)))⟩) (fun _ _ _ _ _ => ⟨_, (v_var 9)⟩) (by decide))
    (l_cons (st_set (i := 17) sc_law.nd rfl (by first | exact .inl rfl | exact .inr rfl) (e_if (b_cmp (op_neD hr.units) s_ne (o_var 16) (EE.oo (e_lst av_nil)) (nomark _)) (e_call F_law_bits (hr.mono (by decide)) (by rfl) (lenC_cons (lenC_cons lenC_nil)) (ac_cons (EE.v (e_ix (ix_G (hu1 hr)) s_ix (o_var 16) (EV.o v_int) (fun _ _ => rfl))) (ac_cons v_int ac_nil))) (EV.ee v_non)))
    (l_one (st_ret (e_and (EE.v (e_cmp (op_ltG hr.units0) s_lt (EE.oo (e_callB s_len call_lenG (by rfl) B.len_ (by decide +kernel) (ao_cons (o_var 16) ao_nil))) (EV.o v_int) (nomark _))) (e_one (e_call F_law_same (hr.mono (by decide)) (by rfl) (lenC_cons (lenC_cons lenC_nil)) (ac_cons (EE.v (e_lst (av_cons (EE.v (e_call F_sums_of (hr.mono (by decide)) (by rfl) (lenC_cons lenC_nil) (ac_cons (EE.v (e_callT s_list call_list_of (by rfl) B.list_ (by decide +kernel) (ao_cons (o_var 7) ao_nil))) ac_nil))) (av_cons (EE.v (e_call F_nearest (hr.mono (by decide)) (by rfl) (lenC_cons lenC_nil) (ac_cons (EE.v (e_callT s_list call_list_of (by rfl) B.list_ (by decide +kernel) (ao_cons (o_var 7) ao_nil))) ac_nil))) av_nil)))) (ac_cons (EE.v (e_lst (av_cons (v_var 8) (av_cons (v_var 17) av_nil)))) ac_nil))))))))))))))))))))))))))))))⟩

end TR
namespace TR
open PySem L2
/-! ### rows by functions -/
def ofE {α : Type} (e : α → T) (n : Nat) (f : Nat → α) : List T := (List.range n).map fun i => e (f i)
def upf {α : Type} (f : Nat → α) (k : Nat) (v : α) : Nat → α := fun i => if i = k then v else f i
section
variable {α : Type} {e : α → T}
theorem ofE_len (n : Nat) (f : Nat → α) : (ofE e n f).length = n := by simp [ofE]
theorem upf_same {f : Nat → α} {k : Nat} {v : α} : upf f k v k = v := by simp [upf]
theorem upf_ne {f : Nat → α} {k i : Nat} {v : α} (h : i ≠ k) : upf f k v i = f i := by simp [upf, h]
theorem set_ofE (n : Nat) (f : Nat → α) (k : Nat) (v : α) : (ofE e n f).set k (e v) = ofE e n (upf f k v) := by
  unfold ofE upf
  apply List.ext_getElem
  · simp
  · intro i h1 h2
    rw [List.getElem_set]
    simp
    by_cases c : k = i
    · simp [c]
    · have c' : ¬ i = k := fun z => c z.symm
      simp [c, c']
theorem at_ofE {n : Nat} (f : Nat → α) {i : Nat} (h : i < n) : atI (ofE e n f) (i : Int) = some (e (f i)) := by
  rw [atI_nat (by rw [ofE_len]; exact h)]
  simp [ofE]
theorem at_ofEI {n : Nat} (f : Nat → α) {j : Int} {i : Nat} (hj : j = (i : Int)) (h : i < n) : atI (ofE e n f) j = some (e (f i)) := by
  subst hj
  exact at_ofE f h
theorem ofE_succ (n : Nat) (f : Nat → α) : ofE e (n + 1) f = ofE e n f ++ [e (f n)] := by
  unfold ofE
  rw [List.range_succ, List.map_append]
  rfl
theorem ofE_congr {n : Nat} {f g : Nat → α} (h : ∀ i, i < n → f i = g i) : ofE e n f = ofE e n g := by
  unfold ofE
  exact List.map_congr_left fun i hi => by rw [h i (List.mem_range.mp hi)]
theorem ofE_cons (n : Nat) (f : Nat → α) : ofE e (n + 1) f = e (f 0) :: ofE e n fun i => f (i + 1) := by
  unfold ofE
  rw [List.range_succ_eq_map, List.map_cons, List.map_map]
  rfl
theorem ofE_rev (n : Nat) (f : Nat → α) : (ofE e n f).reverse = ofE e n fun i => f (n - 1 - i) := by
  unfold ofE
  apply List.ext_getElem
  · simp
  · intro i h1 h2
    simp
end
theorem fmod_nat (a b : Nat) : ((a : Int)).fmod (b : Int) = ((a % b : Nat) : Int) := by
  rw [Int.fmod_eq_emod_of_nonneg _ (by omega), Int.natCast_emod]
theorem fdiv_nat (a b : Nat) : ((a : Int)).fdiv (b : Int) = ((a / b : Nat) : Int) := by
  rw [Int.fdiv_eq_ediv_of_nonneg _ (by omega), Int.natCast_ediv]
theorem fmod2 (a : Nat) : ((a : Int)).fmod 2 = ((a % 2 : Nat) : Int) := fmod_nat a 2
theorem fdiv2 (a : Nat) : ((a : Int)).fdiv 2 = ((a / 2 : Nat) : Int) := fdiv_nat a 2
theorem fdivOk2 : fdivOk 2 = true := by decide +kernel
/-! ### bits -/
def bt (n i : Nat) : Nat := n / 2 ^ i % 2
theorem bt_lt (n i : Nat) : bt n i < 2 := Nat.mod_lt _ (by decide)
def eN (n : Nat) : T := .int (n : Nat)
def bitsT (n w : Nat) : List T := ofE eN w fun i => bt n (w - 1 - i)
theorem div_pow (n i : Nat) : n / 2 ^ i / 2 = n / 2 ^ (i + 1) := by rw [Nat.div_div_eq_div_mul, Nat.pow_succ]
theorem bits_ok (n w : Nat) (hw : w ≤ 1000) : f_bits_of [.fr (.int (n : Nat)), .fr (.int (w : Nat))] = some (⟨.lst (bitsT n w), true⟩, [.fr (.int (n : Nat)), .fr (.int (w : Nat))]) := by
  obtain ⟨τ', h, s3, n3, rfl⟩ := loopS_inv (g := gN 3) (body := bits_of_p2b) (fun i τ => ∃ s3, Sl.isLn s3 = false ∧ τ = [.fr (.int ((n / 2 ^ i : Nat) : Int)), .fr (.int (w : Nat)), .ow (.lst (ofE eN i (bt n))), s3]) (rngT 0 w) 0
    (fun i d τ hd hI => by
      obtain ⟨s3, n3, rfl⟩ := hI
      rw [Nat.zero_add]
      have hi : i < w := by
        have := (List.getElem?_eq_some_iff.mp hd).1
        rw [rngT_length] at this
        exact this
      have hz : (ofE eN i (bt n)).length < sizeLine := by rw [ofE_len]; exact Nat.lt_of_lt_of_le (by omega : i < 1001) (by decide)
      refine ⟨[.fr (.int ((n / 2 ^ (i + 1) : Nat) : Int)), .fr (.int (w : Nat)), .ow (.lst (ofE eN (i + 1) (bt n))), .fr d], ?_, _, rfl, rfl⟩
      have e1 := fmod2 (n / 2 ^ i)
      have e2 := fdiv2 (n / 2 ^ i)
      rw [div_pow] at e2
      rw [ofE_succ]
      have e3 : eN (bt n i) = .int ((n / 2 ^ i % 2 : Nat) : Int) := rfl
      rw [e3, ← e1, ← e2]
      generalize ((n / 2 ^ i : Nat) : Int) = A at *
      simp [n3, bits_of_p2b, bits_of_p2b1, bits_of_p2b2, hz, fdivOk2])
    [.fr (.int ((n / 2 ^ 0 : Nat) : Int)), .fr (.int (w : Nat)), .ow (.lst (ofE eN 0 (bt n))), .no] ⟨.no, rfl, rfl⟩
  rw [rngT_length, Nat.zero_add, Nat.pow_zero, Nat.div_one] at h
  have h' : loopS (gN 3) bits_of_p2b (rngT 0 w) [.fr (.int (n : Nat)), .fr (.int (w : Nat)), .ow (.lst []), .no] = _ := h
  have r1 := rgOk_n w (by omega)
  have hr : revB (.lst (ofE eN w (bt n))) = some ⟨.lst (bitsT n w), true⟩ := by
    show some (R.mk (.lst (ofE eN w (bt n)).reverse) true) = _
    rw [ofE_rev]
    rfl
  have z0 : 0 ≤ sizeLine := Nat.zero_le _
  unfold f_bits_of
  rw [b_bits_of_eq]
  simp [bits_of_p, bits_of_p2, z0, r1, h', hr]
theorem law_bits_ok (n w : Nat) (h1 : 1 ≤ w) (hw : w ≤ 1000) : f_law_bits [.fr (.int (n : Nat)), .fr (.int (w : Nat))] = some (⟨.lst (bitsT n w), true⟩, [.fr (.int (n : Nat)), .fr (.int (w : Nat))]) := by
  obtain ⟨τ', h, s3, n3, rfl⟩ := loopS_inv (g := gN 3) (body := law_bits_p2b) (fun i τ => ∃ s3, Sl.isLn s3 = false ∧ τ = [.fr (.int ((n / 2 ^ i : Nat) : Int)), .fr (.int (w : Nat)), .ow (.lst (bitsT n i)), s3]) (rngT 0 w) 0
    (fun i d τ hd hI => by
      obtain ⟨s3, n3, rfl⟩ := hI
      rw [Nat.zero_add]
      have hi : i < w := by
        have := (List.getElem?_eq_some_iff.mp hd).1
        rw [rngT_length] at this
        exact this
      have hl : (bitsT n i).length = i := ofE_len _ _
      have hz : 1 + (bitsT n i).length ≤ sizeLine := by rw [hl]; exact Nat.le_trans (by omega : 1 + i ≤ 1001) (by decide)
      have z1 : 1 ≤ sizeLine := by decide
      refine ⟨[.fr (.int ((n / 2 ^ (i + 1) : Nat) : Int)), .fr (.int (w : Nat)), .ow (.lst (bitsT n (i + 1))), .fr d], ?_, _, rfl, rfl⟩
      have e1 := fmod2 (n / 2 ^ i)
      have e2 := fdiv2 (n / 2 ^ i)
      rw [div_pow] at e2
      have e4 : bitsT n (i + 1) = .int ((n / 2 ^ i % 2 : Nat) : Int) :: bitsT n i := by
        unfold bitsT
        rw [ofE_cons]
        congr 1
        refine ofE_congr fun j hj => ?_
        congr 1
        omega
      rw [e4, ← e1, ← e2]
      generalize ((n / 2 ^ i : Nat) : Int) = A at *
      simp [n3, law_bits_p2b, law_bits_p2b1, law_bits_p2b2, hz, z1, fdivOk2])
    [.fr (.int ((n / 2 ^ 0 : Nat) : Int)), .fr (.int (w : Nat)), .ow (.lst (bitsT n 0)), .no] ⟨.no, rfl, rfl⟩
  rw [rngT_length, Nat.zero_add, Nat.pow_zero, Nat.div_one] at h
  have h' : loopS (gN 3) law_bits_p2b (rngT 0 w) [.fr (.int (n : Nat)), .fr (.int (w : Nat)), .ow (.lst []), .no] = _ := h
  have r1 := rgOk_n w (by omega)
  have z0 : 0 ≤ sizeLine := Nat.zero_le _
  unfold f_law_bits
  rw [b_law_bits_eq]
  simp [law_bits_p, law_bits_p2, z0, r1, h']
/-! ### rows -/
def cwb (k x : Nat) : Nat := (bt k 5 + ((List.range 5).map fun a => bt x (4 - a) * bt k (4 - a)).sum) % 2
def C (k : Nat) : List T := ofE eN 32 (cwb k)
theorem mul_bits (a b c d : Nat) : mulOk ((bt a b : Nat) : Int) ((bt c d : Nat) : Int) = true := by
  have := bt_lt a b
  unfold mulOk
  rw [decide_eq_true (by omega : ((bt a b : Nat) : Int).natAbs < 2 ^ 64)]
  rfl
theorem sum_castN {α : Type} (f : α → Nat) : ∀ l : List α, (((l.map f).sum : Nat) : Int) = (l.map fun x => (f x : Int)).sum
  | [] => rfl
  | x :: r => by
    rw [List.map_cons, List.sum_cons, List.map_cons, List.sum_cons, ← sum_castN f r]
    omega
theorem row_sum (k x : Nat) (S0 S1 S2 : Sl) (el : M T) (hel : el = (fz (opE mulG (ov (fz (opE ixG (prdOk 3) (prdOk 4)))) (ov (fz (opE ixG (prdOk 0) (ov (fz (opE addG (prdOk 4) (ov (cst (.int 1)))))))))))) :
    lcL (gN 4) yesB el [4] (rngT 0 5) [.fr (.lst (bitsT k 6)), S1, S2, .ow (.lst (bitsT x 5)), .no] = some ((List.range 5).map (fun a => T.int ((bt x (4 - a) * bt k (4 - a) : Nat) : Int)), [.fr (.lst (bitsT k 6)), S1, S2, .ow (.lst (bitsT x 5)), .no]) := by
  subst hel
  rw [rngT0]
  refine lcL_mapE _ _ _ fun a ha => ?_
  have ha := List.mem_range.mp ha
  have a1 : atI (bitsT x 5) (a : Int) = some (.int (bt x (4 - a) : Nat)) := at_ofE _ ha
  have a2 : atI (bitsT k 6) ((a : Int) + 1) = some (.int (bt k (4 - a) : Nat)) := by
    have := at_ofEI (e := eN) (n := 6) (fun i => bt k (6 - 1 - i)) (j := (a : Int) + 1) (i := a + 1) (by omega) (by omega)
    rw [show 6 - 1 - (a + 1) = 4 - a by omega] at this
    exact this
  have hm := mul_bits x (4 - a) k (4 - a)
  simp [lcOne, a1, a2, hm]
theorem cw_val (k x : Nat) : ((bt k 5 : Nat) : Int) + ((List.range 5).map fun a => ((bt x (4 - a) * bt k (4 - a) : Nat) : Int)).sum = ((bt k 5 + ((List.range 5).map fun a => bt x (4 - a) * bt k (4 - a)).sum : Nat) : Int) := by
  rw [Int.natCast_add, sum_castN]
theorem row_ok (k : Nat) : f_row_of [.fr (.lst (bitsT k 6))] = some (⟨.lst (C k), true⟩, [.fr (.lst (bitsT k 6))]) := by
  have r32 : rgOk 32 = true := by decide +kernel
  have r5 : rgOk 5 = true := by decide +kernel
  have z5 : 5 ≤ sizeLine := by decide
  obtain ⟨τ', h, s2, s3, n2, n3, rfl⟩ := loopS_inv (g := gN 2) (body := row_of_p2b) (fun i τ => ∃ s2 s3, Sl.isLn s2 = false ∧ Sl.isLn s3 = false ∧ τ = [.fr (.lst (bitsT k 6)), .ow (.lst (ofE eN i (cwb k))), s2, s3, .no]) (rngT 0 32) 0
    (fun i d τ hd hI => by
      obtain ⟨s2, s3, n2, n3, rfl⟩ := hI
      rw [Nat.zero_add]
      have hi : i < 32 := by
        have := (List.getElem?_eq_some_iff.mp hd).1
        rw [rngT_length] at this
        exact this
      have e : d = .int (i : Nat) := by
        rw [rngT_get _ _ _ hi] at hd
        cases hd
        congr 1
        omega
      subst e
      have hb : f_bits_of [.fr (.int (i : Nat)), .fr (.int 5)] = some (⟨.lst (bitsT i 5), true⟩, [.fr (.int (i : Nat)), .fr (.int 5)]) := bits_ok i 5 (by decide)
      have hs := row_sum k i .no (.ow (.lst (ofE eN i (cwb k)))) (.fr (.int (i : Nat))) row_of_p2b2e1 rfl
      have hsum := sumA_lst (fun a => ((bt i (4 - a) * bt k (4 - a) : Nat) : Int)) (List.range 5)
      have a0 : atI (bitsT k 6) 0 = some (.int (bt k 5 : Nat)) := at_ofEI (e := eN) (n := 6) (fun i => bt k (6 - 1 - i)) (j := 0) (i := 0) rfl (by omega)
      have hv := cw_val k i
      have hz : (ofE eN i (cwb k)).length < sizeLine := by rw [ofE_len]; exact Nat.lt_of_lt_of_le (by omega : i < 1001) (by decide)
      have hm := fmod2 (bt k 5 + ((List.range 5).map fun a => bt i (4 - a) * bt k (4 - a)).sum)
      have e3 : eN (cwb k i) = .int (((bt k 5 + ((List.range 5).map fun a => bt i (4 - a) * bt k (4 - a)).sum) % 2 : Nat) : Int) := rfl
      have hll : ((List.range 5).map fun a => T.int ((bt i (4 - a) * bt k (4 - a) : Nat) : Int)).length ≤ sizeLine := by rw [List.length_map, List.length_range]; exact z5
      refine ⟨[.fr (.lst (bitsT k 6)), .ow (.lst (ofE eN (i + 1) (cwb k))), .fr (.int (i : Nat)), .ow (.lst (bitsT i 5)), .no], ?_, _, _, rfl, rfl, rfl⟩
      rw [ofE_succ, e3, ← hm, ← hv]
      generalize ((List.range 5).map fun a => ((bt i (4 - a) * bt k (4 - a) : Nat) : Int)).sum = SM at *
      generalize (List.range 5).map (fun a => T.int ((bt i (4 - a) * bt k (4 - a) : Nat) : Int)) = LL at *
      simp [n2, n3, row_of_p2b, row_of_p2b1, row_of_p2b2, hb, r5, hs, hll, hsum, a0, hz])
    [.fr (.lst (bitsT k 6)), .ow (.lst (ofE eN 0 (cwb k))), .no, .no, .no] ⟨.no, .no, rfl, rfl, rfl⟩
  rw [rngT_length] at h
  have h' : loopS (gN 2) row_of_p2b (rngT 0 32) [.fr (.lst (bitsT k 6)), .ow (.lst []), .no, .no, .no] = some (.nx [.fr (.lst (bitsT k 6)), .ow (.lst (C k)), s2, s3, .no]) := h
  have z0 : 0 ≤ sizeLine := Nat.zero_le _
  unfold f_row_of
  rw [b_row_of_eq]
  simp [row_of_p, row_of_p2, z0, r32, h']
theorem law_row_ok (k : Nat) : f_law_row [.fr (.lst (bitsT k 6))] = some (⟨.lst (C k), true⟩, [.fr (.lst (bitsT k 6))]) := by
  have r32 : rgOk 32 = true := by decide +kernel
  have r5 : rgOk 5 = true := by decide +kernel
  have z5 : 5 ≤ sizeLine := by decide
  obtain ⟨τ', h, s2, s3, n2, n3, rfl⟩ := loopS_inv (g := gN 2) (body := law_row_p2b) (fun i τ => ∃ s2 s3, Sl.isLn s2 = false ∧ Sl.isLn s3 = false ∧ τ = [.fr (.lst (bitsT k 6)), .ow (.lst (ofE eN i (cwb k))), s2, s3, .no]) (rngT 0 32) 0
    (fun i d τ hd hI => by
      obtain ⟨s2, s3, n2, n3, rfl⟩ := hI
      rw [Nat.zero_add]
      have hi : i < 32 := by
        have := (List.getElem?_eq_some_iff.mp hd).1
        rw [rngT_length] at this
        exact this
      have e : d = .int (i : Nat) := by
        rw [rngT_get _ _ _ hi] at hd
        cases hd
        congr 1
        omega
      subst e
      have hb : f_law_bits [.fr (.int (i : Nat)), .fr (.int 5)] = some (⟨.lst (bitsT i 5), true⟩, [.fr (.int (i : Nat)), .fr (.int 5)]) := law_bits_ok i 5 (by decide) (by decide)
      have hs := row_sum k i .no (.ow (.lst (ofE eN i (cwb k)))) (.fr (.int (i : Nat))) law_row_p2b2e1 rfl
      have hsum := sumA_lst (fun a => ((bt i (4 - a) * bt k (4 - a) : Nat) : Int)) (List.range 5)
      have a0 : atI (bitsT k 6) 0 = some (.int (bt k 5 : Nat)) := at_ofEI (e := eN) (n := 6) (fun i => bt k (6 - 1 - i)) (j := 0) (i := 0) rfl (by omega)
      have hv := cw_val k i
      have hz : (ofE eN i (cwb k)).length < sizeLine := by rw [ofE_len]; exact Nat.lt_of_lt_of_le (by omega : i < 1001) (by decide)
      have hm := fmod2 (bt k 5 + ((List.range 5).map fun a => bt i (4 - a) * bt k (4 - a)).sum)
      have e3 : eN (cwb k i) = .int (((bt k 5 + ((List.range 5).map fun a => bt i (4 - a) * bt k (4 - a)).sum) % 2 : Nat) : Int) := rfl
      have hll : ((List.range 5).map fun a => T.int ((bt i (4 - a) * bt k (4 - a) : Nat) : Int)).length ≤ sizeLine := by rw [List.length_map, List.length_range]; exact z5
      refine ⟨[.fr (.lst (bitsT k 6)), .ow (.lst (ofE eN (i + 1) (cwb k))), .fr (.int (i : Nat)), .ow (.lst (bitsT i 5)), .no], ?_, _, _, rfl, rfl, rfl⟩
      rw [ofE_succ, e3, ← hm, ← hv]
      generalize ((List.range 5).map fun a => ((bt i (4 - a) * bt k (4 - a) : Nat) : Int)).sum = SM at *
      generalize (List.range 5).map (fun a => T.int ((bt i (4 - a) * bt k (4 - a) : Nat) : Int)) = LL at *
      simp [n2, n3, law_row_p2b, law_row_p2b1, law_row_p2b2, hb, r5, hs, hll, hsum, a0, hz])
    [.fr (.lst (bitsT k 6)), .ow (.lst (ofE eN 0 (cwb k))), .no, .no, .no] ⟨.no, .no, rfl, rfl, rfl⟩
  rw [rngT_length] at h
  have h' : loopS (gN 2) law_row_p2b (rngT 0 32) [.fr (.lst (bitsT k 6)), .ow (.lst []), .no, .no, .no] = some (.nx [.fr (.lst (bitsT k 6)), .ow (.lst (C k)), s2, s3, .no]) := h
  have z0 : 0 ≤ sizeLine := Nat.zero_le _
  unfold f_law_row
  rw [b_law_row_eq]
  simp [law_row_p, law_row_p2, z0, r32, h']
end TR

namespace TR
open PySem L2
/-! ### counting places -/
def ct (p : Nat → Bool) : Nat := ((List.range 32).filter p).length
section
variable {α : Type}
theorem filt_le {p q r : α → Bool} : ∀ l : List α, (∀ x ∈ l, p x = true → q x = true ∨ r x = true) → (l.filter p).length ≤ (l.filter q).length + (l.filter r).length
  | [], _ => by simp
  | x :: l, h => by
    have ih := filt_le (p := p) (q := q) (r := r) l fun y hy => h y (by simp [hy])
    have := h x (by simp)
    rw [List.filter_cons, List.filter_cons, List.filter_cons]
    cases hp : p x <;> cases hq : q x <;> cases hr : r x <;> simp [hp, hq, hr] at this ⊢ <;> omega
theorem filt_one [DecidableEq α] {p p' : α → Bool} {a : α} (h0 : p a = false) (h1 : p' a = true) (h2 : ∀ x, x ≠ a → p' x = p x) : ∀ l : List α, l.Nodup → a ∈ l → (l.filter p').length = (l.filter p).length + 1
  | x :: l, hn, hm => by
    rw [List.nodup_cons] at hn
    rw [List.filter_cons, List.filter_cons]
    by_cases c : x = a
    · subst c
      have : l.filter p' = l.filter p := List.filter_congr fun y hy => h2 y fun (z : y = x) => hn.1 (z ▸ hy)
      simp [h0, h1, this]
    · have ih := filt_one h0 h1 h2 l hn.2 ((List.mem_cons.mp hm).resolve_left fun z => c z.symm)
      rw [h2 x c]
      cases p x <;> simp [ih]
theorem sum_ind (p : α → Bool) : ∀ l : List α, (l.map fun x => if p x = true then (1 : Int) else 0).sum = ((l.filter p).length : Nat)
  | [] => rfl
  | x :: l => by
    rw [List.map_cons, List.sum_cons, sum_ind p l, List.filter_cons]
    cases p x <;> simp
    omega
theorem filt_not (p : α → Bool) : ∀ l : List α, (l.filter p).length + (l.filter fun x => !p x).length = l.length
  | [] => rfl
  | x :: l => by
    have := filt_not p l
    rw [List.filter_cons, List.filter_cons]
    cases p x <;> simp <;> omega
end
theorem ct_one {p p' : Nat → Bool} {a : Nat} (ha : a < 32) (h0 : p a = false) (h1 : p' a = true) (h2 : ∀ x, x ≠ a → p' x = p x) : ct p' = ct p + 1 :=
  filt_one h0 h1 h2 _ List.nodup_range (List.mem_range.mpr ha)
theorem ct_congr {p q : Nat → Bool} (h : ∀ x, x < 32 → p x = q x) : ct p = ct q := by
  unfold ct
  rw [List.filter_congr fun x hx => h x (List.mem_range.mp hx)]
theorem ct_le (p : Nat → Bool) : ct p ≤ 32 := Nat.le_trans (List.length_filter_le _ _) (by simp)
def ne (f g : Nat → Nat) (x : Nat) : Bool := !decide (f x = g x)
def apN (f g : Nat → Nat) : Nat := ct (ne f g)
theorem apart_ok (f g : Nat → Nat) : f_law_apart [.fr (.lst (ofE eN 32 f)), .fr (.lst (ofE eN 32 g))] = some (⟨.int (apN f g : Nat), false⟩, [.fr (.lst (ofE eN 32 f)), .fr (.lst (ofE eN 32 g))]) := by
  have r32 : rgOk 32 = true := by decide +kernel
  have z32 : 32 ≤ sizeLine := by decide
  have h : lcL (gN 2) yesB law_apart_pe1 [2] (rngT 0 32) [.fr (.lst (ofE eN 32 f)), .fr (.lst (ofE eN 32 g)), .no] = some ((List.range 32).map (fun x => T.int (if ne f g x = true then 1 else 0)), [.fr (.lst (ofE eN 32 f)), .fr (.lst (ofE eN 32 g)), .no]) := by
    rw [rngT0]
    refine lcL_mapE _ _ _ fun x hx => ?_
    have hx := List.mem_range.mp hx
    have a1 := at_ofE (e := eN) f hx
    have a2 := at_ofE (e := eN) g hx
    have hne : neG (eN (f x)) (eN (g x)) = some ⟨.bl (ne f g x), false⟩ := en_nat.neG (by decide) (f x) (g x)
    have hin : ∀ b : Bool, intG [.bl b] = some ⟨.int (if b = true then 1 else 0), false⟩ := fun b => by cases b <;> rfl
    simp [lcOne, law_apart_pe1, a1, a2, hne, hin]
  have hs := sumA_lst (fun x => if ne f g x = true then (1 : Int) else 0) (List.range 32)
  rw [sum_ind] at hs
  have hl : ((ofE eN 32 f).length : Int) = 32 := by rw [ofE_len]; rfl
  have hz : ((List.range 32).map (fun x => T.int (if ne f g x = true then (1 : Int) else 0))).length ≤ sizeLine := by rw [List.length_map, List.length_range]; exact z32
  have hs' : sumA [.lst ((List.range 32).map (fun x => T.int (if ne f g x = true then (1 : Int) else 0)))] = some ⟨.int (apN f g : Nat), false⟩ := hs
  unfold f_law_apart
  rw [b_law_apart_eq]
  generalize ofE eN 32 f = X at *
  generalize ofE eN 32 g = Y at *
  generalize (List.range 32).map (fun x => T.int (if ne f g x = true then (1 : Int) else 0)) = Z at *
  simp [law_apart_p, hl, r32, h, hz, hs']
/-! ### sums_of -/
def pas (s : Nat) (g : Nat → Int) (x : Nat) : Int := if x / s % 2 = 0 then g x + g (x + s) else g (x - s) - g x
def hh (s : Nat) (g : Nat → Int) (i x : Nat) : Int := if x / s % 2 = 0 then (if x < i then g x + g (x + s) else g x) else (if x - s < i then g (x - s) - g x else g x)
theorem hh_even {s : Nat} (hs : 0 < s) (g : Nat → Int) {i : Nat} (h : i / s % 2 = 0) (x : Nat) : upf (upf (hh s g i) i (g i + g (i + s))) (i + s) (g i - g (i + s)) x = hh s g (i + 1) x := by
  have h2 : (i + s) / s % 2 = 1 := by rw [Nat.add_div_right _ hs]; omega
  by_cases c : x = i + s
  · subst c
    rw [upf_same]
    unfold hh
    rw [if_neg (by omega), if_pos (by omega), Nat.add_sub_cancel]
  · rw [upf_ne c]
    by_cases c2 : x = i
    · subst c2
      rw [upf_same]
      unfold hh
      rw [if_pos h, if_pos (by omega)]
    · rw [upf_ne c2]
      unfold hh
      by_cases c3 : x / s % 2 = 0
      · rw [if_pos c3, if_pos c3]
        by_cases c4 : x < i
        · rw [if_pos c4, if_pos (by omega)]
        · rw [if_neg c4, if_neg (by omega)]
      · rw [if_neg c3, if_neg c3]
        have hx : s ≤ x := by
          refine Nat.not_lt.mp fun z => c3 ?_
          rw [Nat.div_eq_of_lt z]
        by_cases c4 : x - s < i
        · rw [if_pos c4, if_pos (by omega)]
        · rw [if_neg c4, if_neg (by omega)]
theorem hh_odd {s : Nat} (hs : 0 < s) (g : Nat → Int) {i : Nat} (h : ¬ i / s % 2 = 0) (x : Nat) : hh s g i x = hh s g (i + 1) x := by
  have h2 : (i + s) / s % 2 = 0 := by rw [Nat.add_div_right _ hs]; omega
  unfold hh
  by_cases c3 : x / s % 2 = 0
  · rw [if_pos c3, if_pos c3]
    have hne : x ≠ i := fun z => h (z ▸ c3)
    by_cases c4 : x < i
    · rw [if_pos c4, if_pos (by omega)]
    · rw [if_neg c4, if_neg (by omega)]
  · rw [if_neg c3, if_neg c3]
    have hne : x ≠ i + s := fun z => c3 (z ▸ h2)
    have hx : s ≤ x := by
      refine Nat.not_lt.mp fun z => c3 ?_
      rw [Nat.div_eq_of_lt z]
    by_cases c4 : x - s < i
    · rw [if_pos c4, if_pos (by omega)]
    · rw [if_neg c4, if_neg (by omega)]
theorem pass_ok (t : Nat) (ht : t < 5) (g : Nat → Int) (S0 s1 : Sl) (q1 : Hd s1 (.lst (ofE T.int 32 g))) (s4 : Sl) (n4 : s4.isLn = false) : ∃ s4', Sl.isLn s4' = false ∧ loopS (gN 4) sums_of_p3b2b (rngT 0 32) [S0, s1, .fr (.int ((2 ^ t : Nat) : Int)), .ow (.lst (ofE T.int 32 g)), s4, .no] =
    some (.nx [S0, s1, .fr (.int ((2 ^ t : Nat) : Int)), .ow (.lst (ofE T.int 32 (pas (2 ^ t) g))), s4', .no]) := by
  have hs : 0 < 2 ^ t := Nat.two_pow_pos t
  obtain ⟨τ', h, s4', m4, rfl⟩ := loopS_inv (g := gN 4) (body := sums_of_p3b2b) (fun i τ => ∃ s4, Sl.isLn s4 = false ∧ τ = [S0, s1, .fr (.int ((2 ^ t : Nat) : Int)), .ow (.lst (ofE T.int 32 (hh (2 ^ t) g i))), s4, .no]) (rngT 0 32) 0
    (fun i d τ hd hI => by
      obtain ⟨s4, n4, rfl⟩ := hI
      rw [Nat.zero_add]
      have hi : i < 32 := by
        have := (List.getElem?_eq_some_iff.mp hd).1
        rw [rngT_length] at this
        exact this
      have e : d = .int (i : Nat) := by
        rw [rngT_get _ _ _ hi] at hd
        cases hd
        congr 1
        omega
      subst e
      have e1 := fdiv_nat i (2 ^ t)
      have e2 := fmod2 (i / 2 ^ t)
      have hfd : fdivOk ((2 ^ t : Nat) : Int) = true := by
        have : t = 0 ∨ t = 1 ∨ t = 2 ∨ t = 3 ∨ t = 4 := by omega
        rcases this with rfl | rfl | rfl | rfl | rfl <;> decide +kernel
      refine ⟨[S0, s1, .fr (.int ((2 ^ t : Nat) : Int)), .ow (.lst (ofE T.int 32 (hh (2 ^ t) g (i + 1)))), .fr (.int (i : Nat)), .no], ?_, _, rfl, rfl⟩
      by_cases c : i / 2 ^ t % 2 = 0
      · have hlt : i + 2 ^ t < 32 := by
          have : t = 0 ∨ t = 1 ∨ t = 2 ∨ t = 3 ∨ t = 4 := by omega
          rcases this with rfl | rfl | rfl | rfl | rfl <;> simp at c ⊢ <;> omega
        have c' : ((i / 2 ^ t % 2 : Nat) : Int) = 0 := by omega
        have a1 := at_ofE (e := T.int) g hi
        have a2 := at_ofEI (e := T.int) g (j := (i : Int) + ((2 ^ t : Nat) : Int)) (i := i + 2 ^ t) (by omega) hlt
        have hl1 : (ofE T.int 32 (hh (2 ^ t) g i)).length = 32 := ofE_len _ _
        have x1 : ixN (ofE T.int 32 (hh (2 ^ t) g i)).length (i : Int) = some i := by rw [hl1]; exact ixN_nat hi
        have hset1 := set_ofE (e := T.int) 32 (hh (2 ^ t) g i) i (g i + g (i + 2 ^ t))
        have hl2 : (ofE T.int 32 (upf (hh (2 ^ t) g i) i (g i + g (i + 2 ^ t)))).length = 32 := ofE_len _ _
        have x2 : ixN (ofE T.int 32 (upf (hh (2 ^ t) g i) i (g i + g (i + 2 ^ t)))).length ((i : Int) + ((2 ^ t : Nat) : Int)) = some (i + 2 ^ t) := by
          rw [hl2, show (i : Int) + ((2 ^ t : Nat) : Int) = ((i + 2 ^ t : Nat) : Int) by omega]
          exact ixN_nat hlt
        have hset2 := set_ofE (e := T.int) 32 (upf (hh (2 ^ t) g i) i (g i + g (i + 2 ^ t))) (i + 2 ^ t) (g i - g (i + 2 ^ t))
        rw [show ofE T.int 32 (upf (upf (hh (2 ^ t) g i) i (g i + g (i + 2 ^ t))) (i + 2 ^ t) (g i - g (i + 2 ^ t))) = ofE T.int 32 (hh (2 ^ t) g (i + 1)) from ofE_congr fun x _ => hh_even hs g c x] at hset2
        generalize ((i / 2 ^ t : Nat) : Int) = IQ at *
        generalize ((i / 2 ^ t % 2 : Nat) : Int) = IR at *
        generalize ((2 ^ t : Nat) : Int) = ST at *
        generalize 2 ^ t = st at *
        generalize ofE T.int 32 g = G at *
        generalize ofE T.int 32 (hh st g i) = H0 at *
        generalize ofE T.int 32 (upf (hh st g i) i (g i + g (i + st))) = H1 at *
        generalize ofE T.int 32 (hh st g (i + 1)) = H2 at *
        simp [n4, q1.sl, sums_of_p3b2b, sums_of_p3b2bt, sums_of_p3b2bt1, sums_of_p3b2bt2, hfd, e1, e2, c', a1, a2, x1, x2, hset1, hset2]
      · have c' : ¬ ((i / 2 ^ t % 2 : Nat) : Int) = 0 := by omega
        rw [show ofE T.int 32 (hh (2 ^ t) g i) = ofE T.int 32 (hh (2 ^ t) g (i + 1)) from ofE_congr fun x _ => hh_odd hs g c x]
        generalize ((i / 2 ^ t : Nat) : Int) = IQ at *
        generalize ((i / 2 ^ t % 2 : Nat) : Int) = IR at *
        generalize ((2 ^ t : Nat) : Int) = ST at *
        generalize 2 ^ t = st at *
        simp [n4, sums_of_p3b2b, hfd, e1, e2, c'])
    [S0, s1, .fr (.int ((2 ^ t : Nat) : Int)), .ow (.lst (ofE T.int 32 (hh (2 ^ t) g 0))), s4, .no] ⟨s4, n4, rfl⟩
  have e0 : ofE T.int 32 (hh (2 ^ t) g 0) = ofE T.int 32 g := ofE_congr fun x _ => by unfold hh; split <;> simp
  have e32 : ofE T.int 32 (hh (2 ^ t) g (0 + (rngT 0 32).length)) = ofE T.int 32 (pas (2 ^ t) g) := ofE_congr fun x hx => by
    rw [rngT_length]
    unfold hh pas
    split <;> first | rfl | rw [if_pos (by omega)]
  rw [e0, e32] at h
  exact ⟨s4', m4, h⟩
def Gp (g : Nat → Int) : Nat → Nat → Int
  | 0 => g
  | t + 1 => pas (2 ^ t) (Gp g t)
def sg (k : Nat) (g : Nat → Int) (x : Nat) : Int := if cwb k x = 0 then g x else - g x

theorem gl_0 : (fun g : Nat → Int => Gp g 5 0) = fun g => (((((g 0 + g 1) + (g 2 + g 3)) + ((g 4 + g 5) + (g 6 + g 7))) + (((g 8 + g 9) + (g 10 + g 11)) + ((g 12 + g 13) + (g 14 + g 15)))) + ((((g 16 + g 17) + (g 18 + g 19)) + ((g 20 + g 21) + (g 22 + g 23))) + (((g 24 + g 25) + (g 26 + g 27)) + ((g 28 + g 29) + (g 30 + g 31))))) := by kernel_rfl
theorem gr_0 : (fun g : Nat → Int => ((List.range 32).map (sg 0 g)).sum) = fun g => (g 0 + (g 1 + (g 2 + (g 3 + (g 4 + (g 5 + (g 6 + (g 7 + (g 8 + (g 9 + (g 10 + (g 11 + (g 12 + (g 13 + (g 14 + (g 15 + (g 16 + (g 17 + (g 18 + (g 19 + (g 20 + (g 21 + (g 22 + (g 23 + (g 24 + (g 25 + (g 26 + (g 27 + (g 28 + (g 29 + (g 30 + (g 31 + 0)))))))))))))))))))))))))))))))) := by kernel_rfl
theorem gu_0 (g : Nat → Int) : Gp g 5 0 = ((List.range 32).map (sg 0 g)).sum := by
  rw [show Gp g 5 0 = _ from congrFun gl_0 g, show ((List.range 32).map (sg 0 g)).sum = _ from congrFun gr_0 g]
  omega
theorem gl_1 : (fun g : Nat → Int => Gp g 5 1) = fun g => (((((g 0 - g 1) + (g 2 - g 3)) + ((g 4 - g 5) + (g 6 - g 7))) + (((g 8 - g 9) + (g 10 - g 11)) + ((g 12 - g 13) + (g 14 - g 15)))) + ((((g 16 - g 17) + (g 18 - g 19)) + ((g 20 - g 21) + (g 22 - g 23))) + (((g 24 - g 25) + (g 26 - g 27)) + ((g 28 - g 29) + (g 30 - g 31))))) := by kernel_rfl
theorem gr_1 : (fun g : Nat → Int => ((List.range 32).map (sg 1 g)).sum) = fun g => (g 0 + ((- g 1) + (g 2 + ((- g 3) + (g 4 + ((- g 5) + (g 6 + ((- g 7) + (g 8 + ((- g 9) + (g 10 + ((- g 11) + (g 12 + ((- g 13) + (g 14 + ((- g 15) + (g 16 + ((- g 17) + (g 18 + ((- g 19) + (g 20 + ((- g 21) + (g 22 + ((- g 23) + (g 24 + ((- g 25) + (g 26 + ((- g 27) + (g 28 + ((- g 29) + (g 30 + ((- g 31) + 0)))))))))))))))))))))))))))))))) := by kernel_rfl
theorem gu_1 (g : Nat → Int) : Gp g 5 1 = ((List.range 32).map (sg 1 g)).sum := by
  rw [show Gp g 5 1 = _ from congrFun gl_1 g, show ((List.range 32).map (sg 1 g)).sum = _ from congrFun gr_1 g]
  omega
theorem gl_2 : (fun g : Nat → Int => Gp g 5 2) = fun g => (((((g 0 + g 1) - (g 2 + g 3)) + ((g 4 + g 5) - (g 6 + g 7))) + (((g 8 + g 9) - (g 10 + g 11)) + ((g 12 + g 13) - (g 14 + g 15)))) + ((((g 16 + g 17) - (g 18 + g 19)) + ((g 20 + g 21) - (g 22 + g 23))) + (((g 24 + g 25) - (g 26 + g 27)) + ((g 28 + g 29) - (g 30 + g 31))))) := by kernel_rfl
theorem gr_2 : (fun g : Nat → Int => ((List.range 32).map (sg 2 g)).sum) = fun g => (g 0 + (g 1 + ((- g 2) + ((- g 3) + (g 4 + (g 5 + ((- g 6) + ((- g 7) + (g 8 + (g 9 + ((- g 10) + ((- g 11) + (g 12 + (g 13 + ((- g 14) + ((- g 15) + (g 16 + (g 17 + ((- g 18) + ((- g 19) + (g 20 + (g 21 + ((- g 22) + ((- g 23) + (g 24 + (g 25 + ((- g 26) + ((- g 27) + (g 28 + (g 29 + ((- g 30) + ((- g 31) + 0)))))))))))))))))))))))))))))))) := by kernel_rfl
theorem gu_2 (g : Nat → Int) : Gp g 5 2 = ((List.range 32).map (sg 2 g)).sum := by
  rw [show Gp g 5 2 = _ from congrFun gl_2 g, show ((List.range 32).map (sg 2 g)).sum = _ from congrFun gr_2 g]
  omega
theorem gl_3 : (fun g : Nat → Int => Gp g 5 3) = fun g => (((((g 0 - g 1) - (g 2 - g 3)) + ((g 4 - g 5) - (g 6 - g 7))) + (((g 8 - g 9) - (g 10 - g 11)) + ((g 12 - g 13) - (g 14 - g 15)))) + ((((g 16 - g 17) - (g 18 - g 19)) + ((g 20 - g 21) - (g 22 - g 23))) + (((g 24 - g 25) - (g 26 - g 27)) + ((g 28 - g 29) - (g 30 - g 31))))) := by kernel_rfl
theorem gr_3 : (fun g : Nat → Int => ((List.range 32).map (sg 3 g)).sum) = fun g => (g 0 + ((- g 1) + ((- g 2) + (g 3 + (g 4 + ((- g 5) + ((- g 6) + (g 7 + (g 8 + ((- g 9) + ((- g 10) + (g 11 + (g 12 + ((- g 13) + ((- g 14) + (g 15 + (g 16 + ((- g 17) + ((- g 18) + (g 19 + (g 20 + ((- g 21) + ((- g 22) + (g 23 + (g 24 + ((- g 25) + ((- g 26) + (g 27 + (g 28 + ((- g 29) + ((- g 30) + (g 31 + 0)))))))))))))))))))))))))))))))) := by kernel_rfl
theorem gu_3 (g : Nat → Int) : Gp g 5 3 = ((List.range 32).map (sg 3 g)).sum := by
  rw [show Gp g 5 3 = _ from congrFun gl_3 g, show ((List.range 32).map (sg 3 g)).sum = _ from congrFun gr_3 g]
  omega
theorem gl_4 : (fun g : Nat → Int => Gp g 5 4) = fun g => (((((g 0 + g 1) + (g 2 + g 3)) - ((g 4 + g 5) + (g 6 + g 7))) + (((g 8 + g 9) + (g 10 + g 11)) - ((g 12 + g 13) + (g 14 + g 15)))) + ((((g 16 + g 17) + (g 18 + g 19)) - ((g 20 + g 21) + (g 22 + g 23))) + (((g 24 + g 25) + (g 26 + g 27)) - ((g 28 + g 29) + (g 30 + g 31))))) := by kernel_rfl
theorem gr_4 : (fun g : Nat → Int => ((List.range 32).map (sg 4 g)).sum) = fun g => (g 0 + (g 1 + (g 2 + (g 3 + ((- g 4) + ((- g 5) + ((- g 6) + ((- g 7) + (g 8 + (g 9 + (g 10 + (g 11 + ((- g 12) + ((- g 13) + ((- g 14) + ((- g 15) + (g 16 + (g 17 + (g 18 + (g 19 + ((- g 20) + ((- g 21) + ((- g 22) + ((- g 23) + (g 24 + (g 25 + (g 26 + (g 27 + ((- g 28) + ((- g 29) + ((- g 30) + ((- g 31) + 0)))))))))))))))))))))))))))))))) := by kernel_rfl
theorem gu_4 (g : Nat → Int) : Gp g 5 4 = ((List.range 32).map (sg 4 g)).sum := by
  rw [show Gp g 5 4 = _ from congrFun gl_4 g, show ((List.range 32).map (sg 4 g)).sum = _ from congrFun gr_4 g]
  omega
theorem gl_5 : (fun g : Nat → Int => Gp g 5 5) = fun g => (((((g 0 - g 1) + (g 2 - g 3)) - ((g 4 - g 5) + (g 6 - g 7))) + (((g 8 - g 9) + (g 10 - g 11)) - ((g 12 - g 13) + (g 14 - g 15)))) + ((((g 16 - g 17) + (g 18 - g 19)) - ((g 20 - g 21) + (g 22 - g 23))) + (((g 24 - g 25) + (g 26 - g 27)) - ((g 28 - g 29) + (g 30 - g 31))))) := by kernel_rfl
theorem gr_5 : (fun g : Nat → Int => ((List.range 32).map (sg 5 g)).sum) = fun g => (g 0 + ((- g 1) + (g 2 + ((- g 3) + ((- g 4) + (g 5 + ((- g 6) + (g 7 + (g 8 + ((- g 9) + (g 10 + ((- g 11) + ((- g 12) + (g 13 + ((- g 14) + (g 15 + (g 16 + ((- g 17) + (g 18 + ((- g 19) + ((- g 20) + (g 21 + ((- g 22) + (g 23 + (g 24 + ((- g 25) + (g 26 + ((- g 27) + ((- g 28) + (g 29 + ((- g 30) + (g 31 + 0)))))))))))))))))))))))))))))))) := by kernel_rfl
theorem gu_5 (g : Nat → Int) : Gp g 5 5 = ((List.range 32).map (sg 5 g)).sum := by
  rw [show Gp g 5 5 = _ from congrFun gl_5 g, show ((List.range 32).map (sg 5 g)).sum = _ from congrFun gr_5 g]
  omega
theorem gl_6 : (fun g : Nat → Int => Gp g 5 6) = fun g => (((((g 0 + g 1) - (g 2 + g 3)) - ((g 4 + g 5) - (g 6 + g 7))) + (((g 8 + g 9) - (g 10 + g 11)) - ((g 12 + g 13) - (g 14 + g 15)))) + ((((g 16 + g 17) - (g 18 + g 19)) - ((g 20 + g 21) - (g 22 + g 23))) + (((g 24 + g 25) - (g 26 + g 27)) - ((g 28 + g 29) - (g 30 + g 31))))) := by kernel_rfl
theorem gr_6 : (fun g : Nat → Int => ((List.range 32).map (sg 6 g)).sum) = fun g => (g 0 + (g 1 + ((- g 2) + ((- g 3) + ((- g 4) + ((- g 5) + (g 6 + (g 7 + (g 8 + (g 9 + ((- g 10) + ((- g 11) + ((- g 12) + ((- g 13) + (g 14 + (g 15 + (g 16 + (g 17 + ((- g 18) + ((- g 19) + ((- g 20) + ((- g 21) + (g 22 + (g 23 + (g 24 + (g 25 + ((- g 26) + ((- g 27) + ((- g 28) + ((- g 29) + (g 30 + (g 31 + 0)))))))))))))))))))))))))))))))) := by kernel_rfl
theorem gu_6 (g : Nat → Int) : Gp g 5 6 = ((List.range 32).map (sg 6 g)).sum := by
  rw [show Gp g 5 6 = _ from congrFun gl_6 g, show ((List.range 32).map (sg 6 g)).sum = _ from congrFun gr_6 g]
  omega
theorem gl_7 : (fun g : Nat → Int => Gp g 5 7) = fun g => (((((g 0 - g 1) - (g 2 - g 3)) - ((g 4 - g 5) - (g 6 - g 7))) + (((g 8 - g 9) - (g 10 - g 11)) - ((g 12 - g 13) - (g 14 - g 15)))) + ((((g 16 - g 17) - (g 18 - g 19)) - ((g 20 - g 21) - (g 22 - g 23))) + (((g 24 - g 25) - (g 26 - g 27)) - ((g 28 - g 29) - (g 30 - g 31))))) := by kernel_rfl
theorem gr_7 : (fun g : Nat → Int => ((List.range 32).map (sg 7 g)).sum) = fun g => (g 0 + ((- g 1) + ((- g 2) + (g 3 + ((- g 4) + (g 5 + (g 6 + ((- g 7) + (g 8 + ((- g 9) + ((- g 10) + (g 11 + ((- g 12) + (g 13 + (g 14 + ((- g 15) + (g 16 + ((- g 17) + ((- g 18) + (g 19 + ((- g 20) + (g 21 + (g 22 + ((- g 23) + (g 24 + ((- g 25) + ((- g 26) + (g 27 + ((- g 28) + (g 29 + (g 30 + ((- g 31) + 0)))))))))))))))))))))))))))))))) := by kernel_rfl
theorem gu_7 (g : Nat → Int) : Gp g 5 7 = ((List.range 32).map (sg 7 g)).sum := by
  rw [show Gp g 5 7 = _ from congrFun gl_7 g, show ((List.range 32).map (sg 7 g)).sum = _ from congrFun gr_7 g]
  omega
theorem gl_8 : (fun g : Nat → Int => Gp g 5 8) = fun g => (((((g 0 + g 1) + (g 2 + g 3)) + ((g 4 + g 5) + (g 6 + g 7))) - (((g 8 + g 9) + (g 10 + g 11)) + ((g 12 + g 13) + (g 14 + g 15)))) + ((((g 16 + g 17) + (g 18 + g 19)) + ((g 20 + g 21) + (g 22 + g 23))) - (((g 24 + g 25) + (g 26 + g 27)) + ((g 28 + g 29) + (g 30 + g 31))))) := by kernel_rfl
theorem gr_8 : (fun g : Nat → Int => ((List.range 32).map (sg 8 g)).sum) = fun g => (g 0 + (g 1 + (g 2 + (g 3 + (g 4 + (g 5 + (g 6 + (g 7 + ((- g 8) + ((- g 9) + ((- g 10) + ((- g 11) + ((- g 12) + ((- g 13) + ((- g 14) + ((- g 15) + (g 16 + (g 17 + (g 18 + (g 19 + (g 20 + (g 21 + (g 22 + (g 23 + ((- g 24) + ((- g 25) + ((- g 26) + ((- g 27) + ((- g 28) + ((- g 29) + ((- g 30) + ((- g 31) + 0)))))))))))))))))))))))))))))))) := by kernel_rfl
theorem gu_8 (g : Nat → Int) : Gp g 5 8 = ((List.range 32).map (sg 8 g)).sum := by
  rw [show Gp g 5 8 = _ from congrFun gl_8 g, show ((List.range 32).map (sg 8 g)).sum = _ from congrFun gr_8 g]
  omega
theorem gl_9 : (fun g : Nat → Int => Gp g 5 9) = fun g => (((((g 0 - g 1) + (g 2 - g 3)) + ((g 4 - g 5) + (g 6 - g 7))) - (((g 8 - g 9) + (g 10 - g 11)) + ((g 12 - g 13) + (g 14 - g 15)))) + ((((g 16 - g 17) + (g 18 - g 19)) + ((g 20 - g 21) + (g 22 - g 23))) - (((g 24 - g 25) + (g 26 - g 27)) + ((g 28 - g 29) + (g 30 - g 31))))) := by kernel_rfl
theorem gr_9 : (fun g : Nat → Int => ((List.range 32).map (sg 9 g)).sum) = fun g => (g 0 + ((- g 1) + (g 2 + ((- g 3) + (g 4 + ((- g 5) + (g 6 + ((- g 7) + ((- g 8) + (g 9 + ((- g 10) + (g 11 + ((- g 12) + (g 13 + ((- g 14) + (g 15 + (g 16 + ((- g 17) + (g 18 + ((- g 19) + (g 20 + ((- g 21) + (g 22 + ((- g 23) + ((- g 24) + (g 25 + ((- g 26) + (g 27 + ((- g 28) + (g 29 + ((- g 30) + (g 31 + 0)))))))))))))))))))))))))))))))) := by kernel_rfl
theorem gu_9 (g : Nat → Int) : Gp g 5 9 = ((List.range 32).map (sg 9 g)).sum := by
  rw [show Gp g 5 9 = _ from congrFun gl_9 g, show ((List.range 32).map (sg 9 g)).sum = _ from congrFun gr_9 g]
  omega
theorem gl_10 : (fun g : Nat → Int => Gp g 5 10) = fun g => (((((g 0 + g 1) - (g 2 + g 3)) + ((g 4 + g 5) - (g 6 + g 7))) - (((g 8 + g 9) - (g 10 + g 11)) + ((g 12 + g 13) - (g 14 + g 15)))) + ((((g 16 + g 17) - (g 18 + g 19)) + ((g 20 + g 21) - (g 22 + g 23))) - (((g 24 + g 25) - (g 26 + g 27)) + ((g 28 + g 29) - (g 30 + g 31))))) := by kernel_rfl
theorem gr_10 : (fun g : Nat → Int => ((List.range 32).map (sg 10 g)).sum) = fun g => (g 0 + (g 1 + ((- g 2) + ((- g 3) + (g 4 + (g 5 + ((- g 6) + ((- g 7) + ((- g 8) + ((- g 9) + (g 10 + (g 11 + ((- g 12) + ((- g 13) + (g 14 + (g 15 + (g 16 + (g 17 + ((- g 18) + ((- g 19) + (g 20 + (g 21 + ((- g 22) + ((- g 23) + ((- g 24) + ((- g 25) + (g 26 + (g 27 + ((- g 28) + ((- g 29) + (g 30 + (g 31 + 0)))))))))))))))))))))))))))))))) := by kernel_rfl
theorem gu_10 (g : Nat → Int) : Gp g 5 10 = ((List.range 32).map (sg 10 g)).sum := by
  rw [show Gp g 5 10 = _ from congrFun gl_10 g, show ((List.range 32).map (sg 10 g)).sum = _ from congrFun gr_10 g]
  omega
theorem gl_11 : (fun g : Nat → Int => Gp g 5 11) = fun g => (((((g 0 - g 1) - (g 2 - g 3)) + ((g 4 - g 5) - (g 6 - g 7))) - (((g 8 - g 9) - (g 10 - g 11)) + ((g 12 - g 13) - (g 14 - g 15)))) + ((((g 16 - g 17) - (g 18 - g 19)) + ((g 20 - g 21) - (g 22 - g 23))) - (((g 24 - g 25) - (g 26 - g 27)) + ((g 28 - g 29) - (g 30 - g 31))))) := by kernel_rfl
theorem gr_11 : (fun g : Nat → Int => ((List.range 32).map (sg 11 g)).sum) = fun g => (g 0 + ((- g 1) + ((- g 2) + (g 3 + (g 4 + ((- g 5) + ((- g 6) + (g 7 + ((- g 8) + (g 9 + (g 10 + ((- g 11) + ((- g 12) + (g 13 + (g 14 + ((- g 15) + (g 16 + ((- g 17) + ((- g 18) + (g 19 + (g 20 + ((- g 21) + ((- g 22) + (g 23 + ((- g 24) + (g 25 + (g 26 + ((- g 27) + ((- g 28) + (g 29 + (g 30 + ((- g 31) + 0)))))))))))))))))))))))))))))))) := by kernel_rfl
theorem gu_11 (g : Nat → Int) : Gp g 5 11 = ((List.range 32).map (sg 11 g)).sum := by
  rw [show Gp g 5 11 = _ from congrFun gl_11 g, show ((List.range 32).map (sg 11 g)).sum = _ from congrFun gr_11 g]
  omega
theorem gl_12 : (fun g : Nat → Int => Gp g 5 12) = fun g => (((((g 0 + g 1) + (g 2 + g 3)) - ((g 4 + g 5) + (g 6 + g 7))) - (((g 8 + g 9) + (g 10 + g 11)) - ((g 12 + g 13) + (g 14 + g 15)))) + ((((g 16 + g 17) + (g 18 + g 19)) - ((g 20 + g 21) + (g 22 + g 23))) - (((g 24 + g 25) + (g 26 + g 27)) - ((g 28 + g 29) + (g 30 + g 31))))) := by kernel_rfl
theorem gr_12 : (fun g : Nat → Int => ((List.range 32).map (sg 12 g)).sum) = fun g => (g 0 + (g 1 + (g 2 + (g 3 + ((- g 4) + ((- g 5) + ((- g 6) + ((- g 7) + ((- g 8) + ((- g 9) + ((- g 10) + ((- g 11) + (g 12 + (g 13 + (g 14 + (g 15 + (g 16 + (g 17 + (g 18 + (g 19 + ((- g 20) + ((- g 21) + ((- g 22) + ((- g 23) + ((- g 24) + ((- g 25) + ((- g 26) + ((- g 27) + (g 28 + (g 29 + (g 30 + (g 31 + 0)))))))))))))))))))))))))))))))) := by kernel_rfl
theorem gu_12 (g : Nat → Int) : Gp g 5 12 = ((List.range 32).map (sg 12 g)).sum := by
  rw [show Gp g 5 12 = _ from congrFun gl_12 g, show ((List.range 32).map (sg 12 g)).sum = _ from congrFun gr_12 g]
  omega
theorem gl_13 : (fun g : Nat → Int => Gp g 5 13) = fun g => (((((g 0 - g 1) + (g 2 - g 3)) - ((g 4 - g 5) + (g 6 - g 7))) - (((g 8 - g 9) + (g 10 - g 11)) - ((g 12 - g 13) + (g 14 - g 15)))) + ((((g 16 - g 17) + (g 18 - g 19)) - ((g 20 - g 21) + (g 22 - g 23))) - (((g 24 - g 25) + (g 26 - g 27)) - ((g 28 - g 29) + (g 30 - g 31))))) := by kernel_rfl
theorem gr_13 : (fun g : Nat → Int => ((List.range 32).map (sg 13 g)).sum) = fun g => (g 0 + ((- g 1) + (g 2 + ((- g 3) + ((- g 4) + (g 5 + ((- g 6) + (g 7 + ((- g 8) + (g 9 + ((- g 10) + (g 11 + (g 12 + ((- g 13) + (g 14 + ((- g 15) + (g 16 + ((- g 17) + (g 18 + ((- g 19) + ((- g 20) + (g 21 + ((- g 22) + (g 23 + ((- g 24) + (g 25 + ((- g 26) + (g 27 + (g 28 + ((- g 29) + (g 30 + ((- g 31) + 0)))))))))))))))))))))))))))))))) := by kernel_rfl
theorem gu_13 (g : Nat → Int) : Gp g 5 13 = ((List.range 32).map (sg 13 g)).sum := by
  rw [show Gp g 5 13 = _ from congrFun gl_13 g, show ((List.range 32).map (sg 13 g)).sum = _ from congrFun gr_13 g]
  omega
theorem gl_14 : (fun g : Nat → Int => Gp g 5 14) = fun g => (((((g 0 + g 1) - (g 2 + g 3)) - ((g 4 + g 5) - (g 6 + g 7))) - (((g 8 + g 9) - (g 10 + g 11)) - ((g 12 + g 13) - (g 14 + g 15)))) + ((((g 16 + g 17) - (g 18 + g 19)) - ((g 20 + g 21) - (g 22 + g 23))) - (((g 24 + g 25) - (g 26 + g 27)) - ((g 28 + g 29) - (g 30 + g 31))))) := by kernel_rfl
theorem gr_14 : (fun g : Nat → Int => ((List.range 32).map (sg 14 g)).sum) = fun g => (g 0 + (g 1 + ((- g 2) + ((- g 3) + ((- g 4) + ((- g 5) + (g 6 + (g 7 + ((- g 8) + ((- g 9) + (g 10 + (g 11 + (g 12 + (g 13 + ((- g 14) + ((- g 15) + (g 16 + (g 17 + ((- g 18) + ((- g 19) + ((- g 20) + ((- g 21) + (g 22 + (g 23 + ((- g 24) + ((- g 25) + (g 26 + (g 27 + (g 28 + (g 29 + ((- g 30) + ((- g 31) + 0)))))))))))))))))))))))))))))))) := by kernel_rfl
theorem gu_14 (g : Nat → Int) : Gp g 5 14 = ((List.range 32).map (sg 14 g)).sum := by
  rw [show Gp g 5 14 = _ from congrFun gl_14 g, show ((List.range 32).map (sg 14 g)).sum = _ from congrFun gr_14 g]
  omega
theorem gl_15 : (fun g : Nat → Int => Gp g 5 15) = fun g => (((((g 0 - g 1) - (g 2 - g 3)) - ((g 4 - g 5) - (g 6 - g 7))) - (((g 8 - g 9) - (g 10 - g 11)) - ((g 12 - g 13) - (g 14 - g 15)))) + ((((g 16 - g 17) - (g 18 - g 19)) - ((g 20 - g 21) - (g 22 - g 23))) - (((g 24 - g 25) - (g 26 - g 27)) - ((g 28 - g 29) - (g 30 - g 31))))) := by kernel_rfl
theorem gr_15 : (fun g : Nat → Int => ((List.range 32).map (sg 15 g)).sum) = fun g => (g 0 + ((- g 1) + ((- g 2) + (g 3 + ((- g 4) + (g 5 + (g 6 + ((- g 7) + ((- g 8) + (g 9 + (g 10 + ((- g 11) + (g 12 + ((- g 13) + ((- g 14) + (g 15 + (g 16 + ((- g 17) + ((- g 18) + (g 19 + ((- g 20) + (g 21 + (g 22 + ((- g 23) + ((- g 24) + (g 25 + (g 26 + ((- g 27) + (g 28 + ((- g 29) + ((- g 30) + (g 31 + 0)))))))))))))))))))))))))))))))) := by kernel_rfl
theorem gu_15 (g : Nat → Int) : Gp g 5 15 = ((List.range 32).map (sg 15 g)).sum := by
  rw [show Gp g 5 15 = _ from congrFun gl_15 g, show ((List.range 32).map (sg 15 g)).sum = _ from congrFun gr_15 g]
  omega
theorem gl_16 : (fun g : Nat → Int => Gp g 5 16) = fun g => (((((g 0 + g 1) + (g 2 + g 3)) + ((g 4 + g 5) + (g 6 + g 7))) + (((g 8 + g 9) + (g 10 + g 11)) + ((g 12 + g 13) + (g 14 + g 15)))) - ((((g 16 + g 17) + (g 18 + g 19)) + ((g 20 + g 21) + (g 22 + g 23))) + (((g 24 + g 25) + (g 26 + g 27)) + ((g 28 + g 29) + (g 30 + g 31))))) := by kernel_rfl
theorem gr_16 : (fun g : Nat → Int => ((List.range 32).map (sg 16 g)).sum) = fun g => (g 0 + (g 1 + (g 2 + (g 3 + (g 4 + (g 5 + (g 6 + (g 7 + (g 8 + (g 9 + (g 10 + (g 11 + (g 12 + (g 13 + (g 14 + (g 15 + ((- g 16) + ((- g 17) + ((- g 18) + ((- g 19) + ((- g 20) + ((- g 21) + ((- g 22) + ((- g 23) + ((- g 24) + ((- g 25) + ((- g 26) + ((- g 27) + ((- g 28) + ((- g 29) + ((- g 30) + ((- g 31) + 0)))))))))))))))))))))))))))))))) := by kernel_rfl
theorem gu_16 (g : Nat → Int) : Gp g 5 16 = ((List.range 32).map (sg 16 g)).sum := by
  rw [show Gp g 5 16 = _ from congrFun gl_16 g, show ((List.range 32).map (sg 16 g)).sum = _ from congrFun gr_16 g]
  omega
theorem gl_17 : (fun g : Nat → Int => Gp g 5 17) = fun g => (((((g 0 - g 1) + (g 2 - g 3)) + ((g 4 - g 5) + (g 6 - g 7))) + (((g 8 - g 9) + (g 10 - g 11)) + ((g 12 - g 13) + (g 14 - g 15)))) - ((((g 16 - g 17) + (g 18 - g 19)) + ((g 20 - g 21) + (g 22 - g 23))) + (((g 24 - g 25) + (g 26 - g 27)) + ((g 28 - g 29) + (g 30 - g 31))))) := by kernel_rfl
theorem gr_17 : (fun g : Nat → Int => ((List.range 32).map (sg 17 g)).sum) = fun g => (g 0 + ((- g 1) + (g 2 + ((- g 3) + (g 4 + ((- g 5) + (g 6 + ((- g 7) + (g 8 + ((- g 9) + (g 10 + ((- g 11) + (g 12 + ((- g 13) + (g 14 + ((- g 15) + ((- g 16) + (g 17 + ((- g 18) + (g 19 + ((- g 20) + (g 21 + ((- g 22) + (g 23 + ((- g 24) + (g 25 + ((- g 26) + (g 27 + ((- g 28) + (g 29 + ((- g 30) + (g 31 + 0)))))))))))))))))))))))))))))))) := by kernel_rfl
theorem gu_17 (g : Nat → Int) : Gp g 5 17 = ((List.range 32).map (sg 17 g)).sum := by
  rw [show Gp g 5 17 = _ from congrFun gl_17 g, show ((List.range 32).map (sg 17 g)).sum = _ from congrFun gr_17 g]
  omega
theorem gl_18 : (fun g : Nat → Int => Gp g 5 18) = fun g => (((((g 0 + g 1) - (g 2 + g 3)) + ((g 4 + g 5) - (g 6 + g 7))) + (((g 8 + g 9) - (g 10 + g 11)) + ((g 12 + g 13) - (g 14 + g 15)))) - ((((g 16 + g 17) - (g 18 + g 19)) + ((g 20 + g 21) - (g 22 + g 23))) + (((g 24 + g 25) - (g 26 + g 27)) + ((g 28 + g 29) - (g 30 + g 31))))) := by kernel_rfl
theorem gr_18 : (fun g : Nat → Int => ((List.range 32).map (sg 18 g)).sum) = fun g => (g 0 + (g 1 + ((- g 2) + ((- g 3) + (g 4 + (g 5 + ((- g 6) + ((- g 7) + (g 8 + (g 9 + ((- g 10) + ((- g 11) + (g 12 + (g 13 + ((- g 14) + ((- g 15) + ((- g 16) + ((- g 17) + (g 18 + (g 19 + ((- g 20) + ((- g 21) + (g 22 + (g 23 + ((- g 24) + ((- g 25) + (g 26 + (g 27 + ((- g 28) + ((- g 29) + (g 30 + (g 31 + 0)))))))))))))))))))))))))))))))) := by kernel_rfl
theorem gu_18 (g : Nat → Int) : Gp g 5 18 = ((List.range 32).map (sg 18 g)).sum := by
  rw [show Gp g 5 18 = _ from congrFun gl_18 g, show ((List.range 32).map (sg 18 g)).sum = _ from congrFun gr_18 g]
  omega
theorem gl_19 : (fun g : Nat → Int => Gp g 5 19) = fun g => (((((g 0 - g 1) - (g 2 - g 3)) + ((g 4 - g 5) - (g 6 - g 7))) + (((g 8 - g 9) - (g 10 - g 11)) + ((g 12 - g 13) - (g 14 - g 15)))) - ((((g 16 - g 17) - (g 18 - g 19)) + ((g 20 - g 21) - (g 22 - g 23))) + (((g 24 - g 25) - (g 26 - g 27)) + ((g 28 - g 29) - (g 30 - g 31))))) := by kernel_rfl
theorem gr_19 : (fun g : Nat → Int => ((List.range 32).map (sg 19 g)).sum) = fun g => (g 0 + ((- g 1) + ((- g 2) + (g 3 + (g 4 + ((- g 5) + ((- g 6) + (g 7 + (g 8 + ((- g 9) + ((- g 10) + (g 11 + (g 12 + ((- g 13) + ((- g 14) + (g 15 + ((- g 16) + (g 17 + (g 18 + ((- g 19) + ((- g 20) + (g 21 + (g 22 + ((- g 23) + ((- g 24) + (g 25 + (g 26 + ((- g 27) + ((- g 28) + (g 29 + (g 30 + ((- g 31) + 0)))))))))))))))))))))))))))))))) := by kernel_rfl
theorem gu_19 (g : Nat → Int) : Gp g 5 19 = ((List.range 32).map (sg 19 g)).sum := by
  rw [show Gp g 5 19 = _ from congrFun gl_19 g, show ((List.range 32).map (sg 19 g)).sum = _ from congrFun gr_19 g]
  omega
theorem gl_20 : (fun g : Nat → Int => Gp g 5 20) = fun g => (((((g 0 + g 1) + (g 2 + g 3)) - ((g 4 + g 5) + (g 6 + g 7))) + (((g 8 + g 9) + (g 10 + g 11)) - ((g 12 + g 13) + (g 14 + g 15)))) - ((((g 16 + g 17) + (g 18 + g 19)) - ((g 20 + g 21) + (g 22 + g 23))) + (((g 24 + g 25) + (g 26 + g 27)) - ((g 28 + g 29) + (g 30 + g 31))))) := by kernel_rfl
theorem gr_20 : (fun g : Nat → Int => ((List.range 32).map (sg 20 g)).sum) = fun g => (g 0 + (g 1 + (g 2 + (g 3 + ((- g 4) + ((- g 5) + ((- g 6) + ((- g 7) + (g 8 + (g 9 + (g 10 + (g 11 + ((- g 12) + ((- g 13) + ((- g 14) + ((- g 15) + ((- g 16) + ((- g 17) + ((- g 18) + ((- g 19) + (g 20 + (g 21 + (g 22 + (g 23 + ((- g 24) + ((- g 25) + ((- g 26) + ((- g 27) + (g 28 + (g 29 + (g 30 + (g 31 + 0)))))))))))))))))))))))))))))))) := by kernel_rfl
theorem gu_20 (g : Nat → Int) : Gp g 5 20 = ((List.range 32).map (sg 20 g)).sum := by
  rw [show Gp g 5 20 = _ from congrFun gl_20 g, show ((List.range 32).map (sg 20 g)).sum = _ from congrFun gr_20 g]
  omega
theorem gl_21 : (fun g : Nat → Int => Gp g 5 21) = fun g => (((((g 0 - g 1) + (g 2 - g 3)) - ((g 4 - g 5) + (g 6 - g 7))) + (((g 8 - g 9) + (g 10 - g 11)) - ((g 12 - g 13) + (g 14 - g 15)))) - ((((g 16 - g 17) + (g 18 - g 19)) - ((g 20 - g 21) + (g 22 - g 23))) + (((g 24 - g 25) + (g 26 - g 27)) - ((g 28 - g 29) + (g 30 - g 31))))) := by kernel_rfl
theorem gr_21 : (fun g : Nat → Int => ((List.range 32).map (sg 21 g)).sum) = fun g => (g 0 + ((- g 1) + (g 2 + ((- g 3) + ((- g 4) + (g 5 + ((- g 6) + (g 7 + (g 8 + ((- g 9) + (g 10 + ((- g 11) + ((- g 12) + (g 13 + ((- g 14) + (g 15 + ((- g 16) + (g 17 + ((- g 18) + (g 19 + (g 20 + ((- g 21) + (g 22 + ((- g 23) + ((- g 24) + (g 25 + ((- g 26) + (g 27 + (g 28 + ((- g 29) + (g 30 + ((- g 31) + 0)))))))))))))))))))))))))))))))) := by kernel_rfl
theorem gu_21 (g : Nat → Int) : Gp g 5 21 = ((List.range 32).map (sg 21 g)).sum := by
  rw [show Gp g 5 21 = _ from congrFun gl_21 g, show ((List.range 32).map (sg 21 g)).sum = _ from congrFun gr_21 g]
  omega
theorem gl_22 : (fun g : Nat → Int => Gp g 5 22) = fun g => (((((g 0 + g 1) - (g 2 + g 3)) - ((g 4 + g 5) - (g 6 + g 7))) + (((g 8 + g 9) - (g 10 + g 11)) - ((g 12 + g 13) - (g 14 + g 15)))) - ((((g 16 + g 17) - (g 18 + g 19)) - ((g 20 + g 21) - (g 22 + g 23))) + (((g 24 + g 25) - (g 26 + g 27)) - ((g 28 + g 29) - (g 30 + g 31))))) := by kernel_rfl
theorem gr_22 : (fun g : Nat → Int => ((List.range 32).map (sg 22 g)).sum) = fun g => (g 0 + (g 1 + ((- g 2) + ((- g 3) + ((- g 4) + ((- g 5) + (g 6 + (g 7 + (g 8 + (g 9 + ((- g 10) + ((- g 11) + ((- g 12) + ((- g 13) + (g 14 + (g 15 + ((- g 16) + ((- g 17) + (g 18 + (g 19 + (g 20 + (g 21 + ((- g 22) + ((- g 23) + ((- g 24) + ((- g 25) + (g 26 + (g 27 + (g 28 + (g 29 + ((- g 30) + ((- g 31) + 0)))))))))))))))))))))))))))))))) := by kernel_rfl
theorem gu_22 (g : Nat → Int) : Gp g 5 22 = ((List.range 32).map (sg 22 g)).sum := by
  rw [show Gp g 5 22 = _ from congrFun gl_22 g, show ((List.range 32).map (sg 22 g)).sum = _ from congrFun gr_22 g]
  omega
theorem gl_23 : (fun g : Nat → Int => Gp g 5 23) = fun g => (((((g 0 - g 1) - (g 2 - g 3)) - ((g 4 - g 5) - (g 6 - g 7))) + (((g 8 - g 9) - (g 10 - g 11)) - ((g 12 - g 13) - (g 14 - g 15)))) - ((((g 16 - g 17) - (g 18 - g 19)) - ((g 20 - g 21) - (g 22 - g 23))) + (((g 24 - g 25) - (g 26 - g 27)) - ((g 28 - g 29) - (g 30 - g 31))))) := by kernel_rfl
theorem gr_23 : (fun g : Nat → Int => ((List.range 32).map (sg 23 g)).sum) = fun g => (g 0 + ((- g 1) + ((- g 2) + (g 3 + ((- g 4) + (g 5 + (g 6 + ((- g 7) + (g 8 + ((- g 9) + ((- g 10) + (g 11 + ((- g 12) + (g 13 + (g 14 + ((- g 15) + ((- g 16) + (g 17 + (g 18 + ((- g 19) + (g 20 + ((- g 21) + ((- g 22) + (g 23 + ((- g 24) + (g 25 + (g 26 + ((- g 27) + (g 28 + ((- g 29) + ((- g 30) + (g 31 + 0)))))))))))))))))))))))))))))))) := by kernel_rfl
theorem gu_23 (g : Nat → Int) : Gp g 5 23 = ((List.range 32).map (sg 23 g)).sum := by
  rw [show Gp g 5 23 = _ from congrFun gl_23 g, show ((List.range 32).map (sg 23 g)).sum = _ from congrFun gr_23 g]
  omega
theorem gl_24 : (fun g : Nat → Int => Gp g 5 24) = fun g => (((((g 0 + g 1) + (g 2 + g 3)) + ((g 4 + g 5) + (g 6 + g 7))) - (((g 8 + g 9) + (g 10 + g 11)) + ((g 12 + g 13) + (g 14 + g 15)))) - ((((g 16 + g 17) + (g 18 + g 19)) + ((g 20 + g 21) + (g 22 + g 23))) - (((g 24 + g 25) + (g 26 + g 27)) + ((g 28 + g 29) + (g 30 + g 31))))) := by kernel_rfl
theorem gr_24 : (fun g : Nat → Int => ((List.range 32).map (sg 24 g)).sum) = fun g => (g 0 + (g 1 + (g 2 + (g 3 + (g 4 + (g 5 + (g 6 + (g 7 + ((- g 8) + ((- g 9) + ((- g 10) + ((- g 11) + ((- g 12) + ((- g 13) + ((- g 14) + ((- g 15) + ((- g 16) + ((- g 17) + ((- g 18) + ((- g 19) + ((- g 20) + ((- g 21) + ((- g 22) + ((- g 23) + (g 24 + (g 25 + (g 26 + (g 27 + (g 28 + (g 29 + (g 30 + (g 31 + 0)))))))))))))))))))))))))))))))) := by kernel_rfl
theorem gu_24 (g : Nat → Int) : Gp g 5 24 = ((List.range 32).map (sg 24 g)).sum := by
  rw [show Gp g 5 24 = _ from congrFun gl_24 g, show ((List.range 32).map (sg 24 g)).sum = _ from congrFun gr_24 g]
  omega
theorem gl_25 : (fun g : Nat → Int => Gp g 5 25) = fun g => (((((g 0 - g 1) + (g 2 - g 3)) + ((g 4 - g 5) + (g 6 - g 7))) - (((g 8 - g 9) + (g 10 - g 11)) + ((g 12 - g 13) + (g 14 - g 15)))) - ((((g 16 - g 17) + (g 18 - g 19)) + ((g 20 - g 21) + (g 22 - g 23))) - (((g 24 - g 25) + (g 26 - g 27)) + ((g 28 - g 29) + (g 30 - g 31))))) := by kernel_rfl
theorem gr_25 : (fun g : Nat → Int => ((List.range 32).map (sg 25 g)).sum) = fun g => (g 0 + ((- g 1) + (g 2 + ((- g 3) + (g 4 + ((- g 5) + (g 6 + ((- g 7) + ((- g 8) + (g 9 + ((- g 10) + (g 11 + ((- g 12) + (g 13 + ((- g 14) + (g 15 + ((- g 16) + (g 17 + ((- g 18) + (g 19 + ((- g 20) + (g 21 + ((- g 22) + (g 23 + (g 24 + ((- g 25) + (g 26 + ((- g 27) + (g 28 + ((- g 29) + (g 30 + ((- g 31) + 0)))))))))))))))))))))))))))))))) := by kernel_rfl
theorem gu_25 (g : Nat → Int) : Gp g 5 25 = ((List.range 32).map (sg 25 g)).sum := by
  rw [show Gp g 5 25 = _ from congrFun gl_25 g, show ((List.range 32).map (sg 25 g)).sum = _ from congrFun gr_25 g]
  omega
theorem gl_26 : (fun g : Nat → Int => Gp g 5 26) = fun g => (((((g 0 + g 1) - (g 2 + g 3)) + ((g 4 + g 5) - (g 6 + g 7))) - (((g 8 + g 9) - (g 10 + g 11)) + ((g 12 + g 13) - (g 14 + g 15)))) - ((((g 16 + g 17) - (g 18 + g 19)) + ((g 20 + g 21) - (g 22 + g 23))) - (((g 24 + g 25) - (g 26 + g 27)) + ((g 28 + g 29) - (g 30 + g 31))))) := by kernel_rfl
theorem gr_26 : (fun g : Nat → Int => ((List.range 32).map (sg 26 g)).sum) = fun g => (g 0 + (g 1 + ((- g 2) + ((- g 3) + (g 4 + (g 5 + ((- g 6) + ((- g 7) + ((- g 8) + ((- g 9) + (g 10 + (g 11 + ((- g 12) + ((- g 13) + (g 14 + (g 15 + ((- g 16) + ((- g 17) + (g 18 + (g 19 + ((- g 20) + ((- g 21) + (g 22 + (g 23 + (g 24 + (g 25 + ((- g 26) + ((- g 27) + (g 28 + (g 29 + ((- g 30) + ((- g 31) + 0)))))))))))))))))))))))))))))))) := by kernel_rfl
theorem gu_26 (g : Nat → Int) : Gp g 5 26 = ((List.range 32).map (sg 26 g)).sum := by
  rw [show Gp g 5 26 = _ from congrFun gl_26 g, show ((List.range 32).map (sg 26 g)).sum = _ from congrFun gr_26 g]
  omega
theorem gl_27 : (fun g : Nat → Int => Gp g 5 27) = fun g => (((((g 0 - g 1) - (g 2 - g 3)) + ((g 4 - g 5) - (g 6 - g 7))) - (((g 8 - g 9) - (g 10 - g 11)) + ((g 12 - g 13) - (g 14 - g 15)))) - ((((g 16 - g 17) - (g 18 - g 19)) + ((g 20 - g 21) - (g 22 - g 23))) - (((g 24 - g 25) - (g 26 - g 27)) + ((g 28 - g 29) - (g 30 - g 31))))) := by kernel_rfl
theorem gr_27 : (fun g : Nat → Int => ((List.range 32).map (sg 27 g)).sum) = fun g => (g 0 + ((- g 1) + ((- g 2) + (g 3 + (g 4 + ((- g 5) + ((- g 6) + (g 7 + ((- g 8) + (g 9 + (g 10 + ((- g 11) + ((- g 12) + (g 13 + (g 14 + ((- g 15) + ((- g 16) + (g 17 + (g 18 + ((- g 19) + ((- g 20) + (g 21 + (g 22 + ((- g 23) + (g 24 + ((- g 25) + ((- g 26) + (g 27 + (g 28 + ((- g 29) + ((- g 30) + (g 31 + 0)))))))))))))))))))))))))))))))) := by kernel_rfl
theorem gu_27 (g : Nat → Int) : Gp g 5 27 = ((List.range 32).map (sg 27 g)).sum := by
  rw [show Gp g 5 27 = _ from congrFun gl_27 g, show ((List.range 32).map (sg 27 g)).sum = _ from congrFun gr_27 g]
  omega
theorem gl_28 : (fun g : Nat → Int => Gp g 5 28) = fun g => (((((g 0 + g 1) + (g 2 + g 3)) - ((g 4 + g 5) + (g 6 + g 7))) - (((g 8 + g 9) + (g 10 + g 11)) - ((g 12 + g 13) + (g 14 + g 15)))) - ((((g 16 + g 17) + (g 18 + g 19)) - ((g 20 + g 21) + (g 22 + g 23))) - (((g 24 + g 25) + (g 26 + g 27)) - ((g 28 + g 29) + (g 30 + g 31))))) := by kernel_rfl
theorem gr_28 : (fun g : Nat → Int => ((List.range 32).map (sg 28 g)).sum) = fun g => (g 0 + (g 1 + (g 2 + (g 3 + ((- g 4) + ((- g 5) + ((- g 6) + ((- g 7) + ((- g 8) + ((- g 9) + ((- g 10) + ((- g 11) + (g 12 + (g 13 + (g 14 + (g 15 + ((- g 16) + ((- g 17) + ((- g 18) + ((- g 19) + (g 20 + (g 21 + (g 22 + (g 23 + (g 24 + (g 25 + (g 26 + (g 27 + ((- g 28) + ((- g 29) + ((- g 30) + ((- g 31) + 0)))))))))))))))))))))))))))))))) := by kernel_rfl
theorem gu_28 (g : Nat → Int) : Gp g 5 28 = ((List.range 32).map (sg 28 g)).sum := by
  rw [show Gp g 5 28 = _ from congrFun gl_28 g, show ((List.range 32).map (sg 28 g)).sum = _ from congrFun gr_28 g]
  omega
theorem gl_29 : (fun g : Nat → Int => Gp g 5 29) = fun g => (((((g 0 - g 1) + (g 2 - g 3)) - ((g 4 - g 5) + (g 6 - g 7))) - (((g 8 - g 9) + (g 10 - g 11)) - ((g 12 - g 13) + (g 14 - g 15)))) - ((((g 16 - g 17) + (g 18 - g 19)) - ((g 20 - g 21) + (g 22 - g 23))) - (((g 24 - g 25) + (g 26 - g 27)) - ((g 28 - g 29) + (g 30 - g 31))))) := by kernel_rfl
theorem gr_29 : (fun g : Nat → Int => ((List.range 32).map (sg 29 g)).sum) = fun g => (g 0 + ((- g 1) + (g 2 + ((- g 3) + ((- g 4) + (g 5 + ((- g 6) + (g 7 + ((- g 8) + (g 9 + ((- g 10) + (g 11 + (g 12 + ((- g 13) + (g 14 + ((- g 15) + ((- g 16) + (g 17 + ((- g 18) + (g 19 + (g 20 + ((- g 21) + (g 22 + ((- g 23) + (g 24 + ((- g 25) + (g 26 + ((- g 27) + ((- g 28) + (g 29 + ((- g 30) + (g 31 + 0)))))))))))))))))))))))))))))))) := by kernel_rfl
theorem gu_29 (g : Nat → Int) : Gp g 5 29 = ((List.range 32).map (sg 29 g)).sum := by
  rw [show Gp g 5 29 = _ from congrFun gl_29 g, show ((List.range 32).map (sg 29 g)).sum = _ from congrFun gr_29 g]
  omega
theorem gl_30 : (fun g : Nat → Int => Gp g 5 30) = fun g => (((((g 0 + g 1) - (g 2 + g 3)) - ((g 4 + g 5) - (g 6 + g 7))) - (((g 8 + g 9) - (g 10 + g 11)) - ((g 12 + g 13) - (g 14 + g 15)))) - ((((g 16 + g 17) - (g 18 + g 19)) - ((g 20 + g 21) - (g 22 + g 23))) - (((g 24 + g 25) - (g 26 + g 27)) - ((g 28 + g 29) - (g 30 + g 31))))) := by kernel_rfl
theorem gr_30 : (fun g : Nat → Int => ((List.range 32).map (sg 30 g)).sum) = fun g => (g 0 + (g 1 + ((- g 2) + ((- g 3) + ((- g 4) + ((- g 5) + (g 6 + (g 7 + ((- g 8) + ((- g 9) + (g 10 + (g 11 + (g 12 + (g 13 + ((- g 14) + ((- g 15) + ((- g 16) + ((- g 17) + (g 18 + (g 19 + (g 20 + (g 21 + ((- g 22) + ((- g 23) + (g 24 + (g 25 + ((- g 26) + ((- g 27) + ((- g 28) + ((- g 29) + (g 30 + (g 31 + 0)))))))))))))))))))))))))))))))) := by kernel_rfl
theorem gu_30 (g : Nat → Int) : Gp g 5 30 = ((List.range 32).map (sg 30 g)).sum := by
  rw [show Gp g 5 30 = _ from congrFun gl_30 g, show ((List.range 32).map (sg 30 g)).sum = _ from congrFun gr_30 g]
  omega
theorem gl_31 : (fun g : Nat → Int => Gp g 5 31) = fun g => (((((g 0 - g 1) - (g 2 - g 3)) - ((g 4 - g 5) - (g 6 - g 7))) - (((g 8 - g 9) - (g 10 - g 11)) - ((g 12 - g 13) - (g 14 - g 15)))) - ((((g 16 - g 17) - (g 18 - g 19)) - ((g 20 - g 21) - (g 22 - g 23))) - (((g 24 - g 25) - (g 26 - g 27)) - ((g 28 - g 29) - (g 30 - g 31))))) := by kernel_rfl
theorem gr_31 : (fun g : Nat → Int => ((List.range 32).map (sg 31 g)).sum) = fun g => (g 0 + ((- g 1) + ((- g 2) + (g 3 + ((- g 4) + (g 5 + (g 6 + ((- g 7) + ((- g 8) + (g 9 + (g 10 + ((- g 11) + (g 12 + ((- g 13) + ((- g 14) + (g 15 + ((- g 16) + (g 17 + (g 18 + ((- g 19) + (g 20 + ((- g 21) + ((- g 22) + (g 23 + (g 24 + ((- g 25) + ((- g 26) + (g 27 + ((- g 28) + (g 29 + (g 30 + ((- g 31) + 0)))))))))))))))))))))))))))))))) := by kernel_rfl
theorem gu_31 (g : Nat → Int) : Gp g 5 31 = ((List.range 32).map (sg 31 g)).sum := by
  rw [show Gp g 5 31 = _ from congrFun gl_31 g, show ((List.range 32).map (sg 31 g)).sum = _ from congrFun gr_31 g]
  omega
theorem gu (g : Nat → Int) (u : Nat) (hu : u < 32) : Gp g 5 u = ((List.range 32).map (sg u g)).sum := by
  match u, hu with
  | 0, _ => exact gu_0 g
  | 1, _ => exact gu_1 g
  | 2, _ => exact gu_2 g
  | 3, _ => exact gu_3 g
  | 4, _ => exact gu_4 g
  | 5, _ => exact gu_5 g
  | 6, _ => exact gu_6 g
  | 7, _ => exact gu_7 g
  | 8, _ => exact gu_8 g
  | 9, _ => exact gu_9 g
  | 10, _ => exact gu_10 g
  | 11, _ => exact gu_11 g
  | 12, _ => exact gu_12 g
  | 13, _ => exact gu_13 g
  | 14, _ => exact gu_14 g
  | 15, _ => exact gu_15 g
  | 16, _ => exact gu_16 g
  | 17, _ => exact gu_17 g
  | 18, _ => exact gu_18 g
  | 19, _ => exact gu_19 g
  | 20, _ => exact gu_20 g
  | 21, _ => exact gu_21 g
  | 22, _ => exact gu_22 g
  | 23, _ => exact gu_23 g
  | 24, _ => exact gu_24 g
  | 25, _ => exact gu_25 g
  | 26, _ => exact gu_26 g
  | 27, _ => exact gu_27 g
  | 28, _ => exact gu_28 g
  | 29, _ => exact gu_29 g
  | 30, _ => exact gu_30 g
  | 31, _ => exact gu_31 g
  | n + 32, h => exact absurd h (by omega)
theorem cwb_lt (k x : Nat) : cwb k x < 2 := Nat.mod_lt _ (by decide)
theorem sum_sg (k : Nat) (f : Nat → Nat) (hf : ∀ x, f x < 2) : ∀ l : List Nat, (l.map (sg k fun x => 1 - 2 * (f x : Int))).sum = (l.length : Int) - 2 * ((l.filter (ne (cwb k) f)).length : Int)
  | [] => rfl
  | x :: l => by
    have h1 := hf x
    have h2 := cwb_lt k x
    rw [List.map_cons, List.sum_cons, sum_sg k f hf l, List.filter_cons, List.length_cons]
    unfold sg ne
    have e1 : f x = 0 ∨ f x = 1 := by omega
    have e2 : cwb k x = 0 ∨ cwb k x = 1 := by omega
    rcases e1 with e1 | e1 <;> rcases e2 with e2 | e2 <;> simp [e1, e2] <;> omega
def sumsT (f : Nat → Nat) : List T := ofE T.int 32 fun u => 32 - 2 * (apN (cwb u) f : Int)
theorem sums_ok (f : Nat → Nat) (hf : ∀ x, f x < 2) : ∃ o, f_sums_of [.fr (.lst (ofE eN 32 f))] = some (⟨.lst (sumsT f), o⟩, [.fr (.lst (ofE eN 32 f))]) := by
  have r32 : rgOk 32 = true := by decide +kernel
  have z32 : 32 ≤ sizeLine := by decide
  have m2 : ∀ a : Int, mulOk 2 a = true := fun a => by simp [mulOk]
  have h1 : lcL (gN 5) yesB sums_of_p1e1 [5] (ofE eN 32 f) [.fr (.lst (ofE eN 32 f)), .no, .no, .no, .no, .no] = some (ofE T.int 32 (fun x => 1 - 2 * (f x : Int)), [.fr (.lst (ofE eN 32 f)), .no, .no, .no, .no, .no]) := by
    unfold ofE
    refine lcL_mapE _ _ _ fun x hx => ?_
    simp [lcOne, sums_of_p1e1, m2, eN]
  have hl0 : (ofE T.int 32 (fun x => 1 - 2 * (f x : Int))).length ≤ sizeLine := by rw [ofE_len]; exact z32
  have hp1 : sums_of_p1 [.fr (.lst (ofE eN 32 f)), .no, .no, .no, .no, .no] = some (.nx [.fr (.lst (ofE eN 32 f)), .ow (.lst (ofE T.int 32 (fun x => 1 - 2 * (f x : Int)))), .no, .no, .no, .no]) := by
    simp [sums_of_p1, h1, hl0]
  obtain ⟨τ', hw, s1, s3, s4, q1, n3, n4, rfl⟩ := whS_cnt (c := sums_of_p3w) (b := sums_of_p3b) (fun t τ => ∃ s1 s3 s4, Hd s1 (.lst (ofE T.int 32 (Gp (fun x => 1 - 2 * (f x : Int)) t))) ∧ Sl.isLn s3 = false ∧ Sl.isLn s4 = false ∧ τ = [.fr (.lst (ofE eN 32 f)), s1, .fr (.int ((2 ^ t : Nat) : Int)), s3, s4, .no]) 5
    (fun t τ ht hI => by
      obtain ⟨s1, s3, s4, q1, n3, n4, rfl⟩ := hI
      refine ⟨_, ?_, s1, s3, s4, q1, n3, n4, rfl⟩
      have : t = 0 ∨ t = 1 ∨ t = 2 ∨ t = 3 ∨ t = 4 ∨ t = 5 := by omega
      rcases this with rfl | rfl | rfl | rfl | rfl | rfl <;> simp [sums_of_p3w])
    (fun t τ ht hI => by
      obtain ⟨s1, s3, s4, q1, n3, n4, rfl⟩ := hI
      obtain ⟨s4', m4, hp⟩ := pass_ok t ht (Gp (fun x => 1 - 2 * (f x : Int)) t) (.fr (.lst (ofE eN 32 f))) s1 q1 s4 n4
      have hG : Gp (fun x => 1 - 2 * (f x : Int)) (t + 1) = pas (2 ^ t) (Gp (fun x => 1 - 2 * (f x : Int)) t) := rfl
      have e2 : ((2 ^ (t + 1) : Nat) : Int) = 2 * ((2 ^ t : Nat) : Int) := by rw [Nat.pow_succ]; omega
      refine ⟨[.fr (.lst (ofE eN 32 f)), .fr (.lst (ofE T.int 32 (Gp (fun x => 1 - 2 * (f x : Int)) (t + 1)))), .fr (.int ((2 ^ (t + 1) : Nat) : Int)), .fr (.lst (ofE T.int 32 (Gp (fun x => 1 - 2 * (f x : Int)) (t + 1)))), s4', .no], ?_, _, _, _, .fr, rfl, m4, rfl⟩
      rw [hG, e2]
      generalize ((2 ^ t : Nat) : Int) = ST at *
      generalize ofE T.int 32 (pas (2 ^ t) (Gp (fun x => 1 - 2 * (f x : Int)) t)) = B at *
      generalize ofE T.int 32 (Gp (fun x => 1 - 2 * (f x : Int)) t) = A at *
      generalize ofE eN 32 f = F at *
      have hb1 : sums_of_p3b1 [.fr (.lst F), s1, .fr (.int ST), s3, s4, .no] = some (.nx [.fr (.lst F), s1, .fr (.int ST), .ow (.lst A), s4, .no]) := by
        simp [sums_of_p3b1, q1.sl, n3]
      have z0 : 0 ≤ sizeLine := Nat.zero_le _
      unfold sums_of_p3b
      refine sq_nx hb1 ?_
      have r32 : rgOk 32 = true := by decide +kernel
      simp [sums_of_p3b2, sums_of_p3b4, r32, hp, q1.ln, m2])
    1000 0 [.fr (.lst (ofE eN 32 f)), .ow (.lst (ofE T.int 32 (fun x => 1 - 2 * (f x : Int)))), .fr (.int 1), .no, .no, .no] (by omega) (by omega) ⟨_, .no, .no, .ow, rfl, rfl, rfl⟩
  have hfin : ofE T.int 32 (Gp (fun x => 1 - 2 * (f x : Int)) 5) = sumsT f := ofE_congr fun u hu => by
    rw [gu _ u hu, sum_sg u f hf]
    simp [apN, ct]
  rw [hfin] at q1
  have h2 : whS sums_of_p3w sums_of_p3b 1000 [.fr (.lst (ofE eN 32 f)), .ow (.lst (ofE T.int 32 (fun x => 1 - 2 * (f x : Int)))), .fr (.int 1), .no, .no, .no] = _ := hw
  have hs1 : s1 = .fr (.lst (sumsT f)) ∨ s1 = .ow (.lst (sumsT f)) := by
    have := q1.v
    cases s1 with
    | no => cases this
    | ln d => cases this
    | fr d => cases this; exact .inl rfl
    | ow d => cases this; exact .inr rfl
  have hb : ∃ τ o, b_sums_of ([.fr (.lst (ofE eN 32 f))] ++ List.replicate 5 .no) = some (.rt ⟨.lst (sumsT f), o⟩ (.fr (.lst (ofE eN 32 f)) :: τ)) := by
    rw [b_sums_of_eq]
    rcases hs1 with rfl | rfl
    · exact ⟨_, false, sq_nx hp1 (sq_nx (τ1 := [.fr (.lst (ofE eN 32 f)), .ow (.lst (ofE T.int 32 (fun x => 1 - 2 * (f x : Int)))), .fr (.int 1), .no, .no, .no]) rfl (sq_nx h2 rfl))⟩
    · exact ⟨_, true, sq_nx hp1 (sq_nx (τ1 := [.fr (.lst (ofE eN 32 f)), .ow (.lst (ofE T.int 32 (fun x => 1 - 2 * (f x : Int)))), .fr (.int 1), .no, .no, .no]) rfl (sq_nx h2 rfl))⟩
  obtain ⟨τ, o, hb⟩ := hb
  refine ⟨o, ?_⟩
  unfold f_sums_of
  rw [ev_fn, hb]
  rfl
end TR

namespace TR
open PySem L2
/-! ### how far the rows are apart -/
def R01 (k : Nat) : List Bool := (List.range 32).map fun x => Nat.beq (cwb k x) 1
def tabB : List (List Bool) := [[false, false, false, false, false, false, false, false, false, false, false, false, false, false, false, false, false, false, false, false, false, false, false, false, false, false, false, false, false, false, false, false],
  [false, true, false, true, false, true, false, true, false, true, false, true, false, true, false, true, false, true, false, true, false, true, false, true, false, true, false, true, false, true, false, true],
  [false, false, true, true, false, false, true, true, false, false, true, true, false, false, true, true, false, false, true, true, false, false, true, true, false, false, true, true, false, false, true, true],
  [false, true, true, false, false, true, true, false, false, true, true, false, false, true, true, false, false, true, true, false, false, true, true, false, false, true, true, false, false, true, true, false],
  [false, false, false, false, true, true, true, true, false, false, false, false, true, true, true, true, false, false, false, false, true, true, true, true, false, false, false, false, true, true, true, true],
  [false, true, false, true, true, false, true, false, false, true, false, true, true, false, true, false, false, true, false, true, true, false, true, false, false, true, false, true, true, false, true, false],
  [false, false, true, true, true, true, false, false, false, false, true, true, true, true, false, false, false, false, true, true, true, true, false, false, false, false, true, true, true, true, false, false],
  [false, true, true, false, true, false, false, true, false, true, true, false, true, false, false, true, false, true, true, false, true, false, false, true, false, true, true, false, true, false, false, true],
  [false, false, false, false, false, false, false, false, true, true, true, true, true, true, true, true, false, false, false, false, false, false, false, false, true, true, true, true, true, true, true, true],
  [false, true, false, true, false, true, false, true, true, false, true, false, true, false, true, false, false, true, false, true, false, true, false, true, true, false, true, false, true, false, true, false],
  [false, false, true, true, false, false, true, true, true, true, false, false, true, true, false, false, false, false, true, true, false, false, true, true, true, true, false, false, true, true, false, false],
  [false, true, true, false, false, true, true, false, true, false, false, true, true, false, false, true, false, true, true, false, false, true, true, false, true, false, false, true, true, false, false, true],
  [false, false, false, false, true, true, true, true, true, true, true, true, false, false, false, false, false, false, false, false, true, true, true, true, true, true, true, true, false, false, false, false],
  [false, true, false, true, true, false, true, false, true, false, true, false, false, true, false, true, false, true, false, true, true, false, true, false, true, false, true, false, false, true, false, true],
  [false, false, true, true, true, true, false, false, true, true, false, false, false, false, true, true, false, false, true, true, true, true, false, false, true, true, false, false, false, false, true, true],
  [false, true, true, false, true, false, false, true, true, false, false, true, false, true, true, false, false, true, true, false, true, false, false, true, true, false, false, true, false, true, true, false],
  [false, false, false, false, false, false, false, false, false, false, false, false, false, false, false, false, true, true, true, true, true, true, true, true, true, true, true, true, true, true, true, true],
  [false, true, false, true, false, true, false, true, false, true, false, true, false, true, false, true, true, false, true, false, true, false, true, false, true, false, true, false, true, false, true, false],
  [false, false, true, true, false, false, true, true, false, false, true, true, false, false, true, true, true, true, false, false, true, true, false, false, true, true, false, false, true, true, false, false],
  [false, true, true, false, false, true, true, false, false, true, true, false, false, true, true, false, true, false, false, true, true, false, false, true, true, false, false, true, true, false, false, true],
  [false, false, false, false, true, true, true, true, false, false, false, false, true, true, true, true, true, true, true, true, false, false, false, false, true, true, true, true, false, false, false, false],
  [false, true, false, true, true, false, true, false, false, true, false, true, true, false, true, false, true, false, true, false, false, true, false, true, true, false, true, false, false, true, false, true],
  [false, false, true, true, true, true, false, false, false, false, true, true, true, true, false, false, true, true, false, false, false, false, true, true, true, true, false, false, false, false, true, true],
  [false, true, true, false, true, false, false, true, false, true, true, false, true, false, false, true, true, false, false, true, false, true, true, false, true, false, false, true, false, true, true, false],
  [false, false, false, false, false, false, false, false, true, true, true, true, true, true, true, true, true, true, true, true, true, true, true, true, false, false, false, false, false, false, false, false],
  [false, true, false, true, false, true, false, true, true, false, true, false, true, false, true, false, true, false, true, false, true, false, true, false, false, true, false, true, false, true, false, true],
  [false, false, true, true, false, false, true, true, true, true, false, false, true, true, false, false, true, true, false, false, true, true, false, false, false, false, true, true, false, false, true, true],
  [false, true, true, false, false, true, true, false, true, false, false, true, true, false, false, true, true, false, false, true, true, false, false, true, false, true, true, false, false, true, true, false],
  [false, false, false, false, true, true, true, true, true, true, true, true, false, false, false, false, true, true, true, true, false, false, false, false, false, false, false, false, true, true, true, true],
  [false, true, false, true, true, false, true, false, true, false, true, false, false, true, false, true, true, false, true, false, false, true, false, true, false, true, false, true, true, false, true, false],
  [false, false, true, true, true, true, false, false, true, true, false, false, false, false, true, true, true, true, false, false, false, false, true, true, false, false, true, true, true, true, false, false],
  [false, true, true, false, true, false, false, true, true, false, false, true, false, true, true, false, true, false, false, true, false, true, true, false, false, true, true, false, true, false, false, true],
  [true, true, true, true, true, true, true, true, true, true, true, true, true, true, true, true, true, true, true, true, true, true, true, true, true, true, true, true, true, true, true, true],
  [true, false, true, false, true, false, true, false, true, false, true, false, true, false, true, false, true, false, true, false, true, false, true, false, true, false, true, false, true, false, true, false],
  [true, true, false, false, true, true, false, false, true, true, false, false, true, true, false, false, true, true, false, false, true, true, false, false, true, true, false, false, true, true, false, false],
  [true, false, false, true, true, false, false, true, true, false, false, true, true, false, false, true, true, false, false, true, true, false, false, true, true, false, false, true, true, false, false, true],
  [true, true, true, true, false, false, false, false, true, true, true, true, false, false, false, false, true, true, true, true, false, false, false, false, true, true, true, true, false, false, false, false],
  [true, false, true, false, false, true, false, true, true, false, true, false, false, true, false, true, true, false, true, false, false, true, false, true, true, false, true, false, false, true, false, true],
  [true, true, false, false, false, false, true, true, true, true, false, false, false, false, true, true, true, true, false, false, false, false, true, true, true, true, false, false, false, false, true, true],
  [true, false, false, true, false, true, true, false, true, false, false, true, false, true, true, false, true, false, false, true, false, true, true, false, true, false, false, true, false, true, true, false],
  [true, true, true, true, true, true, true, true, false, false, false, false, false, false, false, false, true, true, true, true, true, true, true, true, false, false, false, false, false, false, false, false],
  [true, false, true, false, true, false, true, false, false, true, false, true, false, true, false, true, true, false, true, false, true, false, true, false, false, true, false, true, false, true, false, true],
  [true, true, false, false, true, true, false, false, false, false, true, true, false, false, true, true, true, true, false, false, true, true, false, false, false, false, true, true, false, false, true, true],
  [true, false, false, true, true, false, false, true, false, true, true, false, false, true, true, false, true, false, false, true, true, false, false, true, false, true, true, false, false, true, true, false],
  [true, true, true, true, false, false, false, false, false, false, false, false, true, true, true, true, true, true, true, true, false, false, false, false, false, false, false, false, true, true, true, true],
  [true, false, true, false, false, true, false, true, false, true, false, true, true, false, true, false, true, false, true, false, false, true, false, true, false, true, false, true, true, false, true, false],
  [true, true, false, false, false, false, true, true, false, false, true, true, true, true, false, false, true, true, false, false, false, false, true, true, false, false, true, true, true, true, false, false],
  [true, false, false, true, false, true, true, false, false, true, true, false, true, false, false, true, true, false, false, true, false, true, true, false, false, true, true, false, true, false, false, true],
  [true, true, true, true, true, true, true, true, true, true, true, true, true, true, true, true, false, false, false, false, false, false, false, false, false, false, false, false, false, false, false, false],
  [true, false, true, false, true, false, true, false, true, false, true, false, true, false, true, false, false, true, false, true, false, true, false, true, false, true, false, true, false, true, false, true],
  [true, true, false, false, true, true, false, false, true, true, false, false, true, true, false, false, false, false, true, true, false, false, true, true, false, false, true, true, false, false, true, true],
  [true, false, false, true, true, false, false, true, true, false, false, true, true, false, false, true, false, true, true, false, false, true, true, false, false, true, true, false, false, true, true, false],
  [true, true, true, true, false, false, false, false, true, true, true, true, false, false, false, false, false, false, false, false, true, true, true, true, false, false, false, false, true, true, true, true],
  [true, false, true, false, false, true, false, true, true, false, true, false, false, true, false, true, false, true, false, true, true, false, true, false, false, true, false, true, true, false, true, false],
  [true, true, false, false, false, false, true, true, true, true, false, false, false, false, true, true, false, false, true, true, true, true, false, false, false, false, true, true, true, true, false, false],
  [true, false, false, true, false, true, true, false, true, false, false, true, false, true, true, false, false, true, true, false, true, false, false, true, false, true, true, false, true, false, false, true],
  [true, true, true, true, true, true, true, true, false, false, false, false, false, false, false, false, false, false, false, false, false, false, false, false, true, true, true, true, true, true, true, true],
  [true, false, true, false, true, false, true, false, false, true, false, true, false, true, false, true, false, true, false, true, false, true, false, true, true, false, true, false, true, false, true, false],
  [true, true, false, false, true, true, false, false, false, false, true, true, false, false, true, true, false, false, true, true, false, false, true, true, true, true, false, false, true, true, false, false],
  [true, false, false, true, true, false, false, true, false, true, true, false, false, true, true, false, false, true, true, false, false, true, true, false, true, false, false, true, true, false, false, true],
  [true, true, true, true, false, false, false, false, false, false, false, false, true, true, true, true, false, false, false, false, true, true, true, true, true, true, true, true, false, false, false, false],
  [true, false, true, false, false, true, false, true, false, true, false, true, true, false, true, false, false, true, false, true, true, false, true, false, true, false, true, false, false, true, false, true],
  [true, true, false, false, false, false, true, true, false, false, true, true, true, true, false, false, false, false, true, true, true, true, false, false, true, true, false, false, false, false, true, true],
  [true, false, false, true, false, true, true, false, false, true, true, false, true, false, false, true, false, true, true, false, true, false, false, true, true, false, false, true, false, true, true, false]]
theorem tab_ok : (List.range 64).map R01 = tabB := by kernel_rfl
def dist : List Bool → List Bool → Nat
  | true :: a, true :: b => dist a b
  | false :: a, false :: b => dist a b
  | _ :: a, _ :: b => dist a b + 1
  | _, _ => 0
def chk : List (List Bool) → Bool
  | [] => true
  | a :: r => (r.all fun b => Nat.beq (dist a b) 16 || Nat.beq (dist a b) 32) && chk r
theorem chk_tab : chk tabB = true := by kernel_rfl
theorem chk_pw : ∀ l : List (List Bool), chk l = true → l.Pairwise fun a b => dist a b = 16 ∨ dist a b = 32
  | [], _ => .nil
  | a :: r, h => by
    unfold chk at h
    rw [Bool.and_eq_true] at h
    refine .cons (fun b hb => ?_) (chk_pw r h.2)
    have := List.all_eq_true.mp h.1 b hb
    rw [Bool.or_eq_true] at this
    exact this.imp Nat.eq_of_beq_eq_true Nat.eq_of_beq_eq_true
theorem dist_ne (f g : Nat → Nat) (hf : ∀ x, f x < 2) (hg : ∀ x, g x < 2) : ∀ l : List Nat, dist (l.map fun x => Nat.beq (f x) 1) (l.map fun x => Nat.beq (g x) 1) = (l.filter (ne f g)).length
  | [] => rfl
  | x :: l => by
    have ih := dist_ne f g hf hg l
    have h1 := hf x
    have h2 := hg x
    rw [List.map_cons, List.map_cons, List.filter_cons]
    have e1 : f x = 0 ∨ f x = 1 := by omega
    have e2 : g x = 0 ∨ g x = 1 := by omega
    rcases e1 with e1 | e1 <;> rcases e2 with e2 | e2 <;> simp [e1, e2, ne, dist, ih]
theorem far_lt {j k : Nat} (hj : j < k) (hk : k < 64) : apN (cwb j) (cwb k) = 16 ∨ apN (cwb j) (cwb k) = 32 := by
  have h := chk_pw _ chk_tab
  rw [← tab_ok, List.pairwise_map] at h
  have := List.pairwise_iff_getElem.mp h j k (by simp; omega) (by simp; omega) hj
  simp only [List.getElem_range] at this
  unfold R01 at this
  rw [dist_ne (cwb j) (cwb k) (cwb_lt j) (cwb_lt k)] at this
  exact this
theorem ap_symm (f g : Nat → Nat) : apN f g = apN g f := ct_congr fun x _ => by
  unfold ne
  by_cases h : f x = g x
  · simp [h]
  · have h' : ¬ g x = f x := fun z => h z.symm
    simp [h, h']
theorem far {j k : Nat} (hj : j < 64) (hk : k < 64) (h : j ≠ k) : apN (cwb j) (cwb k) = 16 ∨ apN (cwb j) (cwb k) = 32 := by
  rcases Nat.lt_or_gt_of_ne h with c | c
  · exact far_lt c hk
  · rw [ap_symm]; exact far_lt c hj
theorem tri (f g h : Nat → Nat) : apN f h ≤ apN f g + apN g h := filt_le _ fun x _ e => by
  unfold ne at *
  simp only [Bool.not_eq_true', decide_eq_false_iff_not] at *
  omega
theorem uniq {f : Nat → Nat} {j k : Nat} (hj : j < 64) (hk : k < 64) (h1 : apN (cwb j) f < 8) (h2 : apN (cwb k) f < 8) : j = k := by
  refine Classical.byContradiction fun h => ?_
  have := tri (cwb j) f (cwb k)
  rw [ap_symm f (cwb k)] at this
  rcases far hj hk h with e | e <;> omega
theorem comp_ok : ((List.range 32).all fun n => (List.range 32).all fun x => Nat.beq (cwb (n + 32) x + cwb n x) 1) = true := by kernel_rfl
theorem comp {n : Nat} (hn : n < 32) {x : Nat} (hx : x < 32) : cwb (n + 32) x + cwb n x = 1 :=
  Nat.eq_of_beq_eq_true (List.all_eq_true.mp (List.all_eq_true.mp comp_ok n (List.mem_range.mpr hn)) x (List.mem_range.mpr hx))
theorem ap_comp {n : Nat} (hn : n < 32) (f : Nat → Nat) (hf : ∀ x, f x < 2) : apN (cwb (n + 32)) f + apN (cwb n) f = 32 := by
  have h := filt_not (ne (cwb n) f) (List.range 32)
  have e : apN (cwb (n + 32)) f = ((List.range 32).filter fun x => !ne (cwb n) f x).length := by
    unfold apN ct
    rw [List.filter_congr fun x hx => ?_]
    have h1 := comp hn (List.mem_range.mp hx)
    have h2 := hf x
    have h3 := cwb_lt n x
    unfold ne
    by_cases c : cwb n x = f x
    · have c' : ¬ cwb (n + 32) x = f x := by omega
      simp [c, c']
    · have c' : cwb (n + 32) x = f x := by omega
      have c'' : ¬ cwb n x = cwb (n + 32) x := by omega
      simp [c, c', c'']
  have e2 : apN (cwb n) f = ((List.range 32).filter (ne (cwb n) f)).length := rfl
  rw [e, e2]
  simp at h ⊢
  omega
/-! ### nearest -/
def nr (f : Nat → Nat) : T := match (List.range 64).find? (fun k => decide (apN (cwb k) f < 8)) with
  | some k => .lst (bitsT k 6)
  | none => .non
theorem find_uniq {p : Nat → Bool} {k n : Nat} (hk : k < n) (h : p k = true) (hu : ∀ j, j < n → p j = true → j = k) : (List.range n).find? p = some k := by
  cases e : (List.range n).find? p with
  | none => 
    have := List.find?_eq_none.mp e k (List.mem_range.mpr hk)
    exact absurd h this
  | some j =>
    have h1 := List.find?_some e
    have h2 := List.mem_range.mp (List.mem_of_find?_eq_some e)
    rw [hu j h2 h1]
theorem nr_some {f : Nat → Nat} {k : Nat} (hk : k < 64) (h : apN (cwb k) f < 8) : nr f = .lst (bitsT k 6) := by
  unfold nr
  rw [find_uniq hk (decide_eq_true h) fun j hj hp => uniq hj hk (of_decide_eq_true hp) h]
theorem nr_none {f : Nat → Nat} (h : ∀ k, k < 64 → ¬ apN (cwb k) f < 8) : nr f = .non := by
  unfold nr
  rw [List.find?_eq_none.mpr fun k hk => by rw [decide_eq_true_eq]; exact h k (List.mem_range.mp hk)]
/-- a loop that ends at the first item of a kind, with its answer -/
theorem loopS_findR {α : Type} {g : T → Sls → Option Sls} {body : Sls → Option Out} (Q Q' : Sls → Prop) (e : α → T) (bad : α → Bool) (r : α → R) : ∀ (xs : List α),
    (∀ x ∈ xs, ∀ τ, Q τ → (bad x = false → ∃ τ', (g (e x) τ).bind body = some (.nx τ') ∧ Q τ') ∧ (bad x = true → ∃ τ', (g (e x) τ).bind body = some (.rt (r x) τ') ∧ Q' τ')) →
    ∀ τ, Q τ → (xs.find? bad = none → ∃ τ', loopS g body (xs.map e) τ = some (.nx τ') ∧ Q τ') ∧ (∀ y, xs.find? bad = some y → ∃ τ', loopS g body (xs.map e) τ = some (.rt (r y) τ') ∧ Q' τ')
  | [], _, τ, hR => ⟨fun _ => ⟨τ, rfl, hR⟩, fun y h => by simp at h⟩
  | x :: xs, h, τ, hR => by
    obtain ⟨h1, h2⟩ := h x (by simp) τ hR
    cases hb : bad x with
    | true =>
      refine ⟨fun z => absurd z (by rw [List.find?_cons, hb]; simp), fun y z => ?_⟩
      rw [List.find?_cons, hb] at z
      cases z
      obtain ⟨τ1, q1, q2⟩ := h2 hb
      obtain ⟨τ0, g1, g2⟩ := Option.bind_eq_some_iff.mp q1
      exact ⟨τ1, by rw [List.map_cons, loopS, g1, Option.bind_some, g2]; rfl, q2⟩
    | false =>
      obtain ⟨τ1, q1, q2⟩ := h1 hb
      obtain ⟨τ0, g1, g2⟩ := Option.bind_eq_some_iff.mp q1
      obtain ⟨i1, i2⟩ := loopS_findR Q Q' e bad r xs (fun y hy => h y (by simp [hy])) τ1 q2
      refine ⟨fun z => ?_, fun y z => ?_⟩
      · rw [List.find?_cons, hb] at z
        obtain ⟨τ2, j1, j2⟩ := i1 z
        exact ⟨τ2, by rw [List.map_cons, loopS, g1, Option.bind_some, g2]; exact j1, j2⟩
      · rw [List.find?_cons, hb] at z
        obtain ⟨τ2, j1, j2⟩ := i2 y z
        exact ⟨τ2, by rw [List.map_cons, loopS, g1, Option.bind_some, g2]; exact j1, j2⟩
theorem bits_lo {n : Nat} (hn : n < 32) : bitsT n 6 = .int 0 :: bitsT n 5 := by
  have e : bt n 5 = 0 := by unfold bt; rw [Nat.div_eq_of_lt (by omega)]
  have e0 : eN (bt n 5) = .int 0 := by unfold eN; rw [e]; rfl
  have e1 : ofE eN 5 (fun i => bt n (6 - 1 - (i + 1))) = ofE eN 5 fun i => bt n (5 - 1 - i) := ofE_congr fun i hi => by rw [show 6 - 1 - (i + 1) = 5 - 1 - i by omega]
  unfold bitsT
  rw [ofE_cons, e1]
  show eN (bt n 5) :: _ = _
  rw [e0]
theorem bits_hi {n : Nat} (hn : n < 32) : bitsT (n + 32) 6 = .int 1 :: bitsT n 5 := by
  have e : bt (n + 32) 5 = 1 := by unfold bt; omega
  have e0 : eN (bt (n + 32) 5) = .int 1 := by unfold eN; rw [e]; rfl
  have e1 : ofE eN 5 (fun i => bt (n + 32) (6 - 1 - (i + 1))) = ofE eN 5 fun i => bt n (5 - 1 - i) := ofE_congr fun i hi => by
    rw [show 6 - 1 - (i + 1) = 5 - 1 - i by omega]
    unfold bt
    have : i = 0 ∨ i = 1 ∨ i = 2 ∨ i = 3 ∨ i = 4 := by omega
    rcases this with rfl | rfl | rfl | rfl | rfl <;> simp <;> omega
  unfold bitsT
  rw [ofE_cons, e1]
  show eN (bt (n + 32) 5) :: _ = _
  rw [e0]
theorem nearest_ok (f : Nat → Nat) (hf : ∀ x, f x < 2) : ∃ o, f_nearest [.fr (.lst (ofE eN 32 f))] = some (⟨nr f, o⟩, [.fr (.lst (ofE eN 32 f))]) := by
  obtain ⟨o1, hs⟩ := sums_ok f hf
  have r32 : rgOk 32 = true := by decide +kernel
  have z1 : 1 ≤ sizeLine := by decide
  have hloop := loopS_findR (g := gN 2) (body := nearest_p2b) (fun τ => ∃ s1 s2, Hd s1 (.lst (sumsT f)) ∧ Sl.isLn s2 = false ∧ τ = [.fr (.lst (ofE eN 32 f)), s1, s2]) (fun τ => ∃ s1 s2, τ = [.fr (.lst (ofE eN 32 f)), s1, s2])
    (fun n : Nat => T.int (n : Nat)) (fun n => decide (apN (cwb n) f < 8) || decide (24 < apN (cwb n) f)) (fun n => ⟨if apN (cwb n) f < 8 then .lst (bitsT n 6) else .lst (bitsT (n + 32) 6), true⟩) (List.range 32)
    (fun n hn τ hR => by
      have hn := List.mem_range.mp hn
      obtain ⟨s1, s2, q1, n2, rfl⟩ := hR
      have a1 : atI (sumsT f) (n : Int) = some (.int (32 - 2 * (apN (cwb n) f : Int))) := at_ofE _ hn
      have hb : f_bits_of [.fr (.int (n : Nat)), .fr (.int 5)] = some (⟨.lst (bitsT n 5), true⟩, [.fr (.int (n : Nat)), .fr (.int 5)]) := bits_ok n 5 (by decide)
      have hl : (bitsT n 5).length = 5 := ofE_len _ _
      have hz : 1 + (bitsT n 5).length ≤ sizeLine := by rw [hl]; decide
      constructor
      · intro h
        simp only [Bool.or_eq_false_iff, decide_eq_false_iff_not] at h
        have c1 : ¬ (18 : Int) ≤ 32 - 2 * (apN (cwb n) f : Int) := by omega
        have c2 : ¬ 32 - 2 * (apN (cwb n) f : Int) ≤ -18 := by omega
        refine ⟨[.fr (.lst (ofE eN 32 f)), s1, .fr (.int (n : Nat))], ?_, s1, _, q1, rfl, rfl⟩
        simp [nearest_p2b, nearest_p2b1, nearest_p2b2, n2, q1.sl, a1, c1, c2]
      · intro h
        refine ⟨[.fr (.lst (ofE eN 32 f)), s1, .fr (.int (n : Nat))], ?_, s1, _, rfl⟩
        by_cases c : apN (cwb n) f < 8
        · have c1 : (18 : Int) ≤ 32 - 2 * (apN (cwb n) f : Int) := by omega
          rw [if_pos c, bits_lo hn]
          generalize bitsT n 5 = B at *
          simp [nearest_p2b, nearest_p2b1, nearest_p2b2, n2, q1.sl, a1, c1, hb, z1, hz]
        · simp only [Bool.or_eq_true, decide_eq_true_eq] at h
          have c1 : ¬ (18 : Int) ≤ 32 - 2 * (apN (cwb n) f : Int) := by omega
          have c2 : 32 - 2 * (apN (cwb n) f : Int) ≤ -18 := by omega
          rw [if_neg c, bits_hi hn]
          generalize bitsT n 5 = B at *
          simp [nearest_p2b, nearest_p2b1, nearest_p2b2, n2, q1.sl, a1, c1, c2, hb, z1, hz])
    [.fr (.lst (ofE eN 32 f)), if o1 = true then .ow (.lst (sumsT f)) else .fr (.lst (sumsT f)), .no] ⟨_, .no, (by cases o1 <;> first | exact Hd.fr | exact Hd.ow), rfl, rfl⟩
  rw [← rngT0] at hloop
  unfold f_nearest
  rw [b_nearest_eq]
  cases hfi : (List.range 32).find? (fun n => decide (apN (cwb n) f < 8) || decide (24 < apN (cwb n) f)) with
  | none =>
    obtain ⟨τ', hx, s1, s2, _, _, rfl⟩ := hloop.1 hfi
    refine ⟨false, ?_⟩
    rw [nr_none fun k hk hlt => ?_]
    · simp [nearest_p, nearest_p1, nearest_p2, hs, r32, hx]
    · have hall := List.find?_eq_none.mp hfi
      by_cases c : k < 32
      · have := hall k (List.mem_range.mpr c)
        simp at this
        omega
      · have h1 := hall (k - 32) (List.mem_range.mpr (by omega))
        have h2 := ap_comp (n := k - 32) (by omega) f hf
        rw [show k - 32 + 32 = k by omega] at h2
        simp at h1
        omega
  | some n =>
    obtain ⟨τ', hx, s1, s2, rfl⟩ := hloop.2 n hfi
    have hn := List.mem_range.mp (List.mem_of_find?_eq_some hfi)
    have hp := List.find?_some hfi
    refine ⟨true, ?_⟩
    have e : nr f = if apN (cwb n) f < 8 then .lst (bitsT n 6) else .lst (bitsT (n + 32) 6) := by
      by_cases c : apN (cwb n) f < 8
      · rw [if_pos c]; exact nr_some (by omega) c
      · rw [if_neg c]
        have h2 := ap_comp hn f hf
        simp at hp
        exact nr_some (by omega) (by omega)
    rw [e]
    generalize (if apN (cwb n) f < 8 then T.lst (bitsT n 6) else .lst (bitsT (n + 32) 6)) = RES at *
    simp [nearest_p, nearest_p1, nearest_p2, hs, r32, hx]
/-! ### nearest_read -/
def eO : Option Nat → T
  | none => .non
  | some n => eN n
def unr (h : Nat → Option Nat) : Nat := ct fun x => (h x).isNone
def mis (k : Nat) (h : Nat → Option Nat) : Nat := ct fun x => match h x with
  | none => false
  | some v => !decide (v = cwb k x)
def fit (h : Nat → Option Nat) (k : Nat) : Bool := decide (2 * mis k h + unr h < 16)
def lastP (p : Nat → Bool) : Nat → Option Nat
  | 0 => none
  | i + 1 => if p i = true then some i else lastP p i
def resT (o : Option Nat) : T := match o with
  | some k => .lst (bitsT k 6)
  | none => .non
theorem enu_of {α : Type} (e : α → T) (n : Nat) (f : Nat → α) : enuT 0 (ofE e n f) = (List.range n).map fun x => T.tup [.int (x : Nat), e (f x)] := by
  apply List.ext_getElem?
  intro i
  rw [enuT_get]
  unfold ofE
  rw [List.getElem?_map, List.getElem?_map]
  by_cases h : i < n
  · rw [List.getElem?_range h]
    simp
  · rw [List.getElem?_eq_none (by simp; omega)]
    rfl
theorem near_read_ok (h : Nat → Option Nat) : f_nearest_read [.fr (.lst (ofE eO 32 h))] = some (⟨resT (lastP (fit h) 64), false⟩, [.fr (.lst (ofE eO 32 h))]) := by
  have r64 : rgOk 64 = true := by decide +kernel
  have m232 : mulOk 2 32 = true := by decide +kernel
  have m2 : ∀ a : Int, mulOk 2 a = true := fun a => by simp [mulOk]
  have z32 : 32 ≤ sizeLine := by decide
  have hu : lcL (gN 7) nearest_read_p1c1 (vrd 7) [7] (ofE eO 32 h) [.fr (.lst (ofE eO 32 h)), .no, .no, .no, .no, .no, .no, .no, .no] = some (((List.range 32).filter fun x => (h x).isNone).map (fun x => eO (h x)), [.fr (.lst (ofE eO 32 h)), .no, .no, .no, .no, .no, .no, .no, .no]) := by
    unfold ofE
    refine lcL_filE _ _ _ _ fun x hx => ?_
    cases hv : h x with
    | none => simp [lcOne, nearest_read_p1c1, eO]
    | some v =>
      have his : isG (eN v) .non = some ⟨.bl false, false⟩ := rfl
      simp [lcOne, nearest_read_p1c1, eO, his]
  have hlu : ((List.range 32).filter fun x => (h x).isNone).length ≤ sizeLine := Nat.le_trans (ct_le _) z32
  have hp1 : nearest_read_p1 [.fr (.lst (ofE eO 32 h)), .no, .no, .no, .no, .no, .no, .no, .no] = some (.nx [.fr (.lst (ofE eO 32 h)), .fr (.int (unr h : Nat)), .no, .no, .no, .no, .no, .no, .no]) := by
    unfold unr ct
    generalize ofE eO 32 h = H at *
    simp [nearest_read_p1, hu, hlu]
  obtain ⟨τ', hl, s3, s4, s5, s6, n3, n4, n5, n6, rfl⟩ := loopS_inv (g := gN 3) (body := nearest_read_p3b) (fun i τ => ∃ s3 s4 s5 s6, Sl.isLn s3 = false ∧ Sl.isLn s4 = false ∧ Sl.isLn s5 = false ∧ Sl.isLn s6 = false ∧ τ = [.fr (.lst (ofE eO 32 h)), .fr (.int (unr h : Nat)), .fr (resT (lastP (fit h) i)), s3, s4, s5, s6, .no, .no]) (rngT 0 64) 0
    (fun i d τ hd hI => by
      obtain ⟨s3, s4, s5, s6, n3, n4, n5, n6, rfl⟩ := hI
      rw [Nat.zero_add]
      have hi : i < 64 := by
        have := (List.getElem?_eq_some_iff.mp hd).1
        rw [rngT_length] at this
        exact this
      have e : d = .int (i : Nat) := by
        rw [rngT_get _ _ _ hi] at hd
        cases hd
        congr 1
        omega
      subst e
      have hb : f_bits_of [.fr (.int (i : Nat)), .fr (.int 6)] = some (⟨.lst (bitsT i 6), true⟩, [.fr (.int (i : Nat)), .fr (.int 6)]) := bits_ok i 6 (by decide)
      have hr := row_ok i
      have hin : ∀ s6 : Sl, lcL (gT (gsCons (gN 8) (gsCons (gN 7) gsNil))) nearest_read_p3b3c1 (vrd 8) [8, 7] (enuT 0 (ofE eO 32 h)) [.fr (.lst (ofE eO 32 h)), .fr (.int (unr h : Nat)), .fr (resT (lastP (fit h) i)), .fr (.int (i : Nat)), .fr (.lst (bitsT i 6)), .ow (.lst (C i)), s6, .no, .no] =
          some (((List.range 32).filter fun x => match h x with
            | none => false
            | some v => !decide (v = cwb i x)).map (fun x => T.int (x : Nat)), [.fr (.lst (ofE eO 32 h)), .fr (.int (unr h : Nat)), .fr (resT (lastP (fit h) i)), .fr (.int (i : Nat)), .fr (.lst (bitsT i 6)), .ow (.lst (C i)), s6, .no, .no]) := by
        intro s6
        rw [enu_of]
        refine lcL_filE _ _ _ _ fun x hx => ?_
        have hx := List.mem_range.mp hx
        have a1 : atI (C i) (x : Int) = some (eN (cwb i x)) := at_ofE _ hx
        cases hv : h x with
        | none =>
          have his : isnG .non .non = some ⟨.bl false, false⟩ := rfl
          simp [lcOne, nearest_read_p3b3c1, eO, his]
        | some v =>
          have his : isnG (eN v) .non = some ⟨.bl true, false⟩ := rfl
          have hne := en_nat.neG (by decide) v (cwb i x)
          have hne' : neG (eN v) (eN (cwb i x)) = some ⟨.bl (!decide (v = cwb i x)), false⟩ := hne
          cases hdc : decide (v = cwb i x) <;> simp [lcOne, nearest_read_p3b3c1, eO, his, a1, hne', hdc]
      have hlm : ((List.range 32).filter fun x => match h x with
            | none => false
            | some v => !decide (v = cwb i x)).length ≤ sizeLine := Nat.le_trans (ct_le _) z32
      have hlc : ((List.range 32).filter fun x => match h x with
            | none => false
            | some v => !decide (v = cwb i x)).length = mis i h := rfl
      have f16 : ((32 : Int)).fdiv 2 = 16 := by decide
      have e1 : nearest_read_p3b1 [.fr (.lst (ofE eO 32 h)), .fr (.int (unr h : Nat)), .fr (resT (lastP (fit h) i)), .fr (.int (i : Nat)), s4, s5, s6, .no, .no] = some (.nx [.fr (.lst (ofE eO 32 h)), .fr (.int (unr h : Nat)), .fr (resT (lastP (fit h) i)), .fr (.int (i : Nat)), .ow (.lst (bitsT i 6)), s5, s6, .no, .no]) := by
        simp [nearest_read_p3b1, hb, n4]
      have e2 : nearest_read_p3b2 [.fr (.lst (ofE eO 32 h)), .fr (.int (unr h : Nat)), .fr (resT (lastP (fit h) i)), .fr (.int (i : Nat)), .ow (.lst (bitsT i 6)), s5, s6, .no, .no] = some (.nx [.fr (.lst (ofE eO 32 h)), .fr (.int (unr h : Nat)), .fr (resT (lastP (fit h) i)), .fr (.int (i : Nat)), .fr (.lst (bitsT i 6)), .ow (.lst (C i)), s6, .no, .no]) := by
        simp [nearest_read_p3b2, hr, n5]
      have e3 : nearest_read_p3b3 [.fr (.lst (ofE eO 32 h)), .fr (.int (unr h : Nat)), .fr (resT (lastP (fit h) i)), .fr (.int (i : Nat)), .fr (.lst (bitsT i 6)), .ow (.lst (C i)), s6, .no, .no] = some (.nx [.fr (.lst (ofE eO 32 h)), .fr (.int (unr h : Nat)), .fr (resT (lastP (fit h) i)), .fr (.int (i : Nat)), .fr (.lst (bitsT i 6)), .ow (.lst (C i)), .fr (.int (mis i h : Nat)), .no, .no]) := by
        have hin := hin s6
        rw [← hlc]
        generalize ((List.range 32).filter fun x => match h x with
            | none => false
            | some v => !decide (v = cwb i x)) = W at *
        generalize ofE eO 32 h = H at *
        simp [nearest_read_p3b3, hin, hlm, n6]
      refine ⟨[.fr (.lst (ofE eO 32 h)), .fr (.int (unr h : Nat)), .fr (resT (lastP (fit h) (i + 1))), .fr (.int (i : Nat)), .fr (.lst (bitsT i 6)), .ow (.lst (C i)), .fr (.int (mis i h : Nat)), .no, .no], ?_, _, _, _, _, rfl, rfl, rfl, rfl, rfl⟩
      have e0 : gN 3 (.int (i : Nat)) [.fr (.lst (ofE eO 32 h)), .fr (.int (unr h : Nat)), .fr (resT (lastP (fit h) i)), s3, s4, s5, s6, .no, .no] = some [.fr (.lst (ofE eO 32 h)), .fr (.int (unr h : Nat)), .fr (resT (lastP (fit h) i)), .fr (.int (i : Nat)), s4, s5, s6, .no, .no] := by
        simp [n3]
      rw [e0, Option.bind_some]
      unfold nearest_read_p3b
      refine sq_nx e1 (sq_nx e2 (sq_nx e3 ?_))
      by_cases c : 2 * mis i h + unr h < 16
      · have hl : lastP (fit h) (i + 1) = some i := by unfold lastP fit; rw [if_pos (decide_eq_true c)]
        have c' : 2 * (mis i h : Int) + (unr h : Int) < 16 := by omega
        rw [hl]
        simp [nearest_read_p3b4, m2, f16, fdivOk2, c', resT]
      · have hl : lastP (fit h) (i + 1) = lastP (fit h) i := by
          show (if fit h i = true then some i else lastP (fit h) i) = _
          unfold fit
          rw [if_neg (by rw [decide_eq_false c]; exact Bool.false_ne_true)]
        have c' : ¬ 2 * (mis i h : Int) + (unr h : Int) < 16 := by omega
        rw [hl]
        simp [nearest_read_p3b4, m2, f16, fdivOk2, c'])
    [.fr (.lst (ofE eO 32 h)), .fr (.int (unr h : Nat)), .fr (resT (lastP (fit h) 0)), .no, .no, .no, .no, .no, .no] ⟨.no, .no, .no, .no, rfl, rfl, rfl, rfl, rfl⟩
  rw [rngT_length, Nat.zero_add] at hl
  have hl' : loopS (gN 3) nearest_read_p3b (rngT 0 64) [.fr (.lst (ofE eO 32 h)), .fr (.int (unr h : Nat)), .fr .non, .no, .no, .no, .no, .no, .no] = _ := hl
  have hp3 : nearest_read_p3 [.fr (.lst (ofE eO 32 h)), .fr (.int (unr h : Nat)), .fr .non, .no, .no, .no, .no, .no, .no] = some (.nx [.fr (.lst (ofE eO 32 h)), .fr (.int (unr h : Nat)), .fr (resT (lastP (fit h) 64)), s3, s4, s5, s6, .no, .no]) := by
    generalize resT (lastP (fit h) 64) = RS at *
    simp [nearest_read_p3, m232, r64, hl']
  have hb : b_nearest_read ([.fr (.lst (ofE eO 32 h))] ++ List.replicate 8 .no) = some (.rt ⟨resT (lastP (fit h) 64), false⟩ [.fr (.lst (ofE eO 32 h)), .fr (.int (unr h : Nat)), .fr (resT (lastP (fit h) 64)), s3, s4, s5, s6, .no, .no]) := by
    rw [b_nearest_read_eq]
    exact sq_nx hp1 (sq_nx (τ1 := [.fr (.lst (ofE eO 32 h)), .fr (.int (unr h : Nat)), .fr .non, .no, .no, .no, .no, .no, .no]) rfl (sq_nx hp3 rfl))
  unfold f_nearest_read
  rw [ev_fn, hb]
  rfl
theorem fit_uniq {h : Nat → Option Nat} {j k : Nat} (hj : j < 64) (hk : k < 64) (h1 : fit h j = true) (h2 : fit h k = true) : j = k := by
  refine Classical.byContradiction fun hne => ?_
  unfold fit at h1 h2
  have h1 := of_decide_eq_true h1
  have h2 := of_decide_eq_true h2
  have t1 : apN (cwb j) (cwb k) ≤ (mis j h + mis k h) + unr h := by
    have a1 : apN (cwb j) (cwb k) ≤ ((List.range 32).filter fun x => (match h x with
      | none => false
      | some v => !decide (v = cwb j x)) || (match h x with
      | none => false
      | some v => !decide (v = cwb k x))).length + unr h := filt_le _ fun x _ e => by
        unfold ne at e
        simp only [Bool.not_eq_true', decide_eq_false_iff_not] at e
        cases hv : h x with
        | none => exact .inr rfl
        | some v =>
          left
          simp
          omega
    have a2 : ((List.range 32).filter fun x => (match h x with
      | none => false
      | some v => !decide (v = cwb j x)) || (match h x with
      | none => false
      | some v => !decide (v = cwb k x))).length ≤ mis j h + mis k h := filt_le _ fun x _ e => by
        rw [Bool.or_eq_true] at e
        exact e
    omega
  rcases far hj hk hne with e | e <;> omega
theorem lastP_none {p : Nat → Bool} : ∀ n, (∀ k, k < n → p k = false) → lastP p n = none
  | 0, _ => rfl
  | n + 1, h => by
    unfold lastP
    rw [h n (by omega), if_neg Bool.false_ne_true]
    exact lastP_none n fun k hk => h k (by omega)
theorem lastP_some {p : Nat → Bool} {k : Nat} (hp : p k = true) : ∀ n, k < n → (∀ j, j < n → p j = true → j = k) → lastP p n = some k
  | 0, h, _ => absurd h (by omega)
  | n + 1, h, hu => by
    unfold lastP
    by_cases c : p n = true
    · rw [if_pos c, hu n (by omega) c]
    · rw [if_neg c]
      have hne : k ≠ n := fun z => c (z ▸ hp)
      exact lastP_some hp n (by omega) fun j hj hpj => hu j (by omega) hpj
theorem filt_uniq {p : Nat → Bool} {k n : Nat} (hk : k < n) (hp : p k = true) (hu : ∀ j, j < n → p j = true → j = k) : (List.range n).filter p = [k] := by
  have h1 : (List.range n).filter p = (List.range n).filter fun j => decide (j = k) := List.filter_congr fun j hj => by
    by_cases c : j = k
    · subst c; rw [hp, decide_eq_true rfl]
    · rw [decide_eq_false c]
      cases e : p j with
      | false => rfl
      | true => exact absurd (hu j (List.mem_range.mp hj) e) c
  rw [h1]
  clear h1 hp hu
  induction n with
  | zero => omega
  | succ n ih =>
    rw [List.range_succ, List.filter_append]
    by_cases c : k = n
    · subst c
      have : (List.range k).filter (fun j => decide (j = k)) = [] := by
        rw [List.filter_eq_nil_iff]
        intro a ha
        have := List.mem_range.mp ha
        simp
        omega
      rw [this]
      simp
    · rw [ih (by omega)]
      have : ¬ n = k := fun z => c z.symm
      simp [this]
end TR

namespace TR
open PySem L2
abbrev N (x : Int) : Sl := .fr (.int x)
abbrev bK (k : Nat) : T := .lst (bitsT k 6)
abbrev cT (k : Nat) : T := .lst (C k)
def cTf (k : Nat) : T := cT k
def EVR : List T := (List.range 64).map cTf
theorem EVR_len : EVR.length = 64 := by unfold EVR; rw [List.length_map, List.length_range]
abbrev fT (f : Nat → Nat) : T := .lst (ofE eN 32 f)
theorem sok_bK (n k : Nat) : sok (n + 2) (bK k) := ⟨by rw [show (bitsT k 6).length = 6 from ofE_len _ _]; decide, fun x hx => by
  unfold bitsT ofE at hx
  obtain ⟨i, _, rfl⟩ := List.mem_map.mp hx
  trivial⟩
theorem sok_fT (n : Nat) (f : Nat → Nat) : sok (n + 2) (fT f) := ⟨by rw [ofE_len]; decide, fun x hx => by
  unfold ofE at hx
  obtain ⟨i, _, rfl⟩ := List.mem_map.mp hx
  trivial⟩
theorem sok_sums (n : Nat) (f : Nat → Nat) : sok (n + 2) (.lst (sumsT f)) := ⟨by unfold sumsT; rw [ofE_len]; decide, fun x hx => by
  unfold sumsT ofE at hx
  obtain ⟨i, _, rfl⟩ := List.mem_map.mp hx
  trivial⟩
theorem fdiv_small (l : Int) (h : 0 < l) (h2 : l < 100000) : fdivOk l = true := by
  unfold fdivOk
  rw [decide_eq_true (by omega : l ≠ 0), decide_eq_true (by omega : l.natAbs < 1073741824)]
  rfl
theorem EVR_at {k : Nat} (hk : k < 64) : atI EVR (k : Int) = some (cT k) := by
  rw [atI_nat (by rw [EVR_len]; exact hk)]
  unfold EVR
  rw [List.getElem_map, List.getElem_range]
  rfl
theorem ne_self (f : Nat → Nat) : neG (fT f) (fT f) = some ⟨.bl false, false⟩ := by
  have := en_nat.lst.neG (by decide) ((List.range 32).map f) ((List.range 32).map f)
  rw [decide_eq_true rfl, List.map_map] at this
  exact this
theorem erase_perm {α : Type} : ∀ (l : List α) (i : Nat) (y : α), l[i]? = some y → (y :: l.eraseIdx i).Perm l
  | [], i, y, h => by simp at h
  | x :: l, 0, y, h => by
    simp at h
    subst h
    exact .refl _
  | x :: l, i + 1, y, h => by
    have := erase_perm l i y (by simpa using h)
    rw [List.eraseIdx_cons_succ]
    exact (List.Perm.swap x y _).trans (.cons x this)
theorem erase_map {α β : Type} (f : α → β) : ∀ (l : List α) (i : Nat), (l.map f).eraseIdx i = (l.eraseIdx i).map f
  | [], _ => by simp
  | x :: l, 0 => by simp
  | x :: l, i + 1 => by
    rw [List.map_cons, List.eraseIdx_cons_succ, List.eraseIdx_cons_succ, List.map_cons, erase_map f l i]
/-- one place is taken out -/
structure Pls (pl : List Nat) (i : Nat) : Prop where
  len : pl.length + i = 32
  nd : pl.Nodup
  lt : ∀ x ∈ pl, x < 32
theorem Pls.step {pl : List Nat} {i : Nat} (h : Pls pl i) {v : Nat} (hv : v < pl.length) : Pls (pl.eraseIdx v) (i + 1) ∧ pl[v] < 32 ∧ ¬ pl[v] ∈ pl.eraseIdx v ∧ ∀ x ∈ pl.eraseIdx v, x ∈ pl := by
  have hp := erase_perm pl v pl[v] (List.getElem?_eq_getElem hv)
  have hnd := hp.nodup_iff.mpr h.nd
  rw [List.nodup_cons] at hnd
  have hl := hp.length_eq
  rw [List.length_cons] at hl
  have := h.len
  exact ⟨⟨by omega, hnd.2, fun x hx => h.lt x (hp.mem_iff.mp (by simp [hx]))⟩, h.lt _ (List.getElem_mem hv), hnd.1, fun x hx => hp.mem_iff.mp (by simp [hx])⟩
theorem Pls.init : Pls (List.range 32) 0 := ⟨by simp, List.nodup_range, fun x hx => List.mem_range.mp hx⟩
theorem pop_ok {pl : List Nat} {v : Nat} (hv : v < pl.length) (hl : pl.length ≤ 32) : popAtG (pl.map eN) [.int (v : Nat)] = some (eN pl[v], (pl.eraseIdx v).map eN) := by
  unfold popAtG
  dsimp only
  rw [rgOk_n v (by omega), if_pos rfl, List.length_map, ixN_nat hv, Option.bind_some, List.getElem?_map, List.getElem?_eq_getElem hv, erase_map]
  rfl

theorem p1_ok (ns : List Int) : ∃ r : Int, law_p1 [.fr (.frl (ns.map .int)), .no, .no, .no, .no, .no, .no, .no, .no, .no, .no, .no, .no, .no, .no, .no, .no, .no, .no, .no, .no, .no] = some (.nx [.fr (.frl (ns.map .int)), .ow (PoolT ns 0 r 0), .no, .no, .no, .no, .no, .no, .no, .no, .no, .no, .no, .no, .no, .no, .no, .no, .no, .no, .no, .no]) := by
  obtain ⟨r, hr⟩ := pool_ok ns
  exact ⟨r, by simp [law_p1, hr]⟩
theorem p2_ok (S : Sl) (ns : List Int) (p r f : Int) : ∃ (k : Nat) (r' f' : Int), k < 64 ∧ law_p2 [S, .ow (PoolT ns p r f), .no, .no, .no, .no, .no, .no, .no, .no, .no, .no, .no, .no, .no, .no, .no, .no, .no, .no, .no, .no] = some (.nx [S, .ow (PoolT ns p r' f'), N (k : Nat), .no, .no, .no, .no, .no, .no, .no, .no, .no, .no, .no, .no, .no, .no, .no, .no, .no, .no, .no]) := by
  obtain ⟨v, r', f', hd, v0, v1⟩ := draw_ok ns p r f 64 (by decide) (by decide +kernel)
  refine ⟨v.toNat, r', f', by omega, ?_⟩
  have e : ((v.toNat : Nat) : Int) = v := by omega
  rw [e]
  simp [law_p2, hd]
section
variable (S : Sl) (P : T) (k : Nat) (hk : k < 64)
theorem p3_ok : law_p3 [S, .ow P, N (k : Nat), .no, .no, .no, .no, .no, .no, .no, .no, .no, .no, .no, .no, .no, .no, .no, .no, .no, .no, .no] = some (.nx [S, .ow P, N (k : Nat), .ow (bK k), .no, .no, .no, .no, .no, .no, .no, .no, .no, .no, .no, .no, .no, .no, .no, .no, .no, .no]) := by
  have hb : f_law_bits [.fr (.int (k : Nat)), .fr (.int 6)] = some (⟨.lst (bitsT k 6), true⟩, [.fr (.int (k : Nat)), .fr (.int 6)]) := law_bits_ok k 6 (by decide) (by decide)
  unfold law_p3
  rw [← sl_eq f_law_bits] at hb ⊢
  simp [hb]
theorem p4_ok : law_p4 [S, .ow P, N (k : Nat), .ow (bK k), .no, .no, .no, .no, .no, .no, .no, .no, .no, .no, .no, .no, .no, .no, .no, .no, .no, .no] = some (.nx [S, .ow P, N (k : Nat), .fr (bK k), .ow (cT k), .no, .no, .no, .no, .no, .no, .no, .no, .no, .no, .no, .no, .no, .no, .no, .no, .no]) := by
  have hr := law_row_ok k
  unfold law_p4
  rw [← sl_eq f_law_row] at hr ⊢
  simp [hr]
theorem p5_ok : law_p5 [S, .ow P, N (k : Nat), .fr (bK k), .ow (cT k), .no, .no, .no, .no, .no, .no, .no, .no, .no, .no, .no, .no, .no, .no, .no, .no, .no] = some (.nx [S, .ow P, N (k : Nat), .fr (bK k), .fr (cT k), .no, .no, .no, .no, .no, .no, .no, .no, .no, .no, .no, .no, .no, .no, .no, .no, .no]) := by
  have hr := row_ok k
  have hs := same_ok (cT k) (sok_fT 3 (cwb k))
  unfold law_p5
  rw [← sl_eq f_row_of] at hr ⊢
  rw [← sl_eq f_law_same] at hs ⊢
  simp [hr, hs]
theorem p6_ok : law_p6 [S, .ow P, N (k : Nat), .fr (bK k), .fr (cT k), .no, .no, .no, .no, .no, .no, .no, .no, .no, .no, .no, .no, .no, .no, .no, .no, .no] = some (.nx [S, .ow P, N (k : Nat), .fr (bK k), .fr (cT k), .ow (.lst EVR), .no, .no, .no, .no, .no, .no, .no, .no, .no, .no, .no, .no, .no, .no, .no, .no]) := by
  have h : lcL (gN 9) yesB law_p6e1 [9] (rngT 0 64) [S, .ow P, N (k : Nat), .fr (bK k), .fr (cT k), .no, .no, .no, .no, .no, .no, .no, .no, .no, .no, .no, .no, .no, .no, .no, .no, .no] = some (EVR, [S, .ow P, N (k : Nat), .fr (bK k), .fr (cT k), .no, .no, .no, .no, .no, .no, .no, .no, .no, .no, .no, .no, .no, .no, .no, .no, .no]) := by
    rw [rngT0]
    unfold EVR
    refine lcL_mapE _ cTf _ fun j hj => ?_
    unfold cTf
    have hb : f_law_bits [.fr (.int (j : Nat)), .fr (.int 6)] = some (⟨.lst (bitsT j 6), true⟩, [.fr (.int (j : Nat)), .fr (.int 6)]) := law_bits_ok j 6 (by decide) (by decide)
    have hr := law_row_ok j
    unfold law_p6e1
    rw [← sl_eq f_law_bits] at hb ⊢
    rw [← sl_eq f_law_row] at hr ⊢
    simp [lcOne, hb, hr]
  have r64 : rgOk 64 = true := by decide +kernel
  have hl : EVR.length ≤ sizeLine := by rw [EVR_len]; decide
  generalize EVR = E at *
  unfold law_p6
  rw [← sl_eq law_p6e1] at h ⊢
  simp [r64, h, hl]
include hk in
theorem p7_ok : law_p7 [S, .ow P, N (k : Nat), .fr (bK k), .fr (cT k), .ow (.lst EVR), .no, .no, .no, .no, .no, .no, .no, .no, .no, .no, .no, .no, .no, .no, .no, .no] = some (.nx [S, .ow P, N (k : Nat), .fr (bK k), .fr (cT k), .ow (.lst EVR), .no, .no, .no, .no, .no, .no, .no, .no, .no, .no, .no, .no, .no, .no, .no, .no]) := by
  have h : lcL (gN 9) law_p7c1 law_p7e1 [9] (rngT 0 64) [S, .ow P, N (k : Nat), .fr (bK k), .fr (cT k), .ow (.lst EVR), .no, .no, .no, .no, .no, .no, .no, .no, .no, .no, .no, .no, .no, .no, .no, .no] = some (((List.range 64).filter fun j => !decide (j = k)).map (fun _ => T.bl true), [S, .ow P, N (k : Nat), .fr (bK k), .fr (cT k), .ow (.lst EVR), .no, .no, .no, .no, .no, .no, .no, .no, .no, .no, .no, .no, .no, .no, .no, .no]) := by
    rw [rngT0]
    refine lcL_filE _ _ _ _ fun j hj => ?_
    have hj := List.mem_range.mp hj
    have ha := apart_ok (cwb j) (cwb k)
    have hev := EVR_at hj
    by_cases c : j = k
    · subst c
      simp [lcOne, law_p7c1]
    · have c' : ¬ (j : Int) = (k : Int) := by omega
      have hin : inG (.int (apN (cwb j) (cwb k) : Nat)) (.tup [.int 16, .int 32]) = some ⟨.bl true, false⟩ := by
        rcases far hj hk c with e | e <;> rw [e] <;> rfl
      have z2 : 2 ≤ sizeLine := by decide
      have ha' : f_law_apart [.fr (cT j), .fr (cT k)] = _ := ha
      generalize cT k = CK at *
      generalize cT j = CJ at *
      generalize EVR = E at *
      unfold law_p7e1
      rw [← sl_eq f_law_apart] at ha' ⊢
      simp [lcOne, law_p7c1, c, c', hev, ha', hin, z2]
  have hall := all_lst (fun _ : Nat => true) ((List.range 64).filter fun j => !decide (j = k))
  rw [show (((List.range 64).filter fun j => !decide (j = k)).all fun _ => true) = true by simp] at hall
  have hz : (((List.range 64).filter fun j => !decide (j = k)).map (fun _ => T.bl true)).length ≤ sizeLine := by
    rw [List.length_map]
    exact Nat.le_trans (List.length_filter_le _ _) (by rw [List.length_range]; decide)
  have r64 : rgOk 64 = true := by decide +kernel
  generalize ((List.range 64).filter fun j => !decide (j = k)).map (fun _ => T.bl true) = W at *
  generalize EVR = E at *
  unfold law_p7
  rw [← sl_eq law_p7e1] at h ⊢
  simp [r64, h, hz, hall]
end
theorem ap_self (f : Nat → Nat) : apN f f = 0 := by
  unfold apN ct
  rw [List.length_eq_zero_iff, List.filter_eq_nil_iff]
  intro x _
  unfold ne
  simp
/-- one place is turned -/
theorem turn_one {f g : Nat → Nat} (hf : ∀ x, f x < 2) {a : Nat} (ha : a < 32) (h : g a = f a) : apN g (upf f a (1 - f a)) = apN g f + 1 := by
  refine ct_one ha ?_ ?_ fun x hx => ?_
  · unfold ne
    rw [decide_eq_true h]
    rfl
  · unfold ne
    rw [upf_same, decide_eq_false (by have := hf a; omega)]
    rfl
  · unfold ne
    rw [upf_ne hx]
theorem upf_lt {f : Nat → Nat} (hf : ∀ x, f x < 2) (a : Nat) : ∀ x, upf f a (1 - f a) x < 2 := fun x => by
  unfold upf
  split
  · have := hf a; omega
  · exact hf x
section
variable (S : Sl) (ns : List Int) (k : Nat) (hk : k < 64)
include hk
theorem p8in_ok (m : Nat) (hm : m ≤ 8) (s18 : Sl) (p r f : Int) (s14 s19 : Sl) (n14 : s14.isLn = false) (n19 : s19.isLn = false) : ∃ (p' r' f' : Int) (pl : List Nat) (g : Nat → Nat) (s14' s19' : Sl), s14'.isLn = false ∧ s19'.isLn = false ∧ (∀ x, g x < 2) ∧ apN (cwb k) g = m ∧
    loopS (gN 14) law_p8b4b (rngT 0 m) [S, .ow (PoolT ns p r f), N (k : Nat), .fr (bK k), .fr (cT k), .ow (.lst EVR), N (m : Nat), .no, .no, .no, .ow (.lst ((List.range 32).map eN)), .no, .no, .ow (fT (cwb k)), s14, .no, .no, .no, s18, s19, .no, .no] = some (.nx [S, .ow (PoolT ns p' r' f'), N (k : Nat), .fr (bK k), .fr (cT k), .ow (.lst EVR), N (m : Nat), .no, .no, .no, .ow (.lst (pl.map eN)), .no, .no, .ow (fT g), s14', .no, .no, .no, s18, s19', .no, .no]) := by
  obtain ⟨τ', h, p', r', f', pl, g, s14', s19', n14', n19', hpl, hg, hag, _, rfl⟩ := loopS_inv (g := gN 14) (body := law_p8b4b) (fun i τ => ∃ (p r f : Int) (pl : List Nat) (g : Nat → Nat) (s14 s19 : Sl), s14.isLn = false ∧ s19.isLn = false ∧ Pls pl i ∧ (∀ x, g x < 2) ∧ apN (cwb k) g = i ∧ (∀ x ∈ pl, g x = cwb k x) ∧ τ = [S, .ow (PoolT ns p r f), N (k : Nat), .fr (bK k), .fr (cT k), .ow (.lst EVR), N (m : Nat), .no, .no, .no, .ow (.lst (pl.map eN)), .no, .no, .ow (fT g), s14, .no, .no, .no, s18, s19, .no, .no]) (rngT 0 m) 0
    (fun i d τ hd hI => by
      rw [Nat.zero_add] at hI ⊢
      obtain ⟨p, r, f, pl, g, s14, s19, n14, n19, hpl, hg, hag, hun, rfl⟩ := hI
      have hi : i < m := by
        have := (List.getElem?_eq_some_iff.mp hd).1
        rw [rngT_length] at this
        exact this
      have e : d = .int (i : Nat) := by
        rw [rngT_get _ _ _ hi] at hd
        cases hd
        congr 1
        omega
      subst e
      have hlen := hpl.len
      obtain ⟨v, r1, f1, hdr, v0, v1⟩ := draw_ok ns p r f (pl.length : Int) (by omega) (fdiv_small _ (by omega) (by omega))
      obtain ⟨u, rfl⟩ : ∃ u : Nat, v = u := ⟨v.toNat, by omega⟩
      have hu : u < pl.length := by omega
      obtain ⟨q1, q2, q3, q4⟩ := hpl.step hu
      have hmem : pl[u] ∈ pl := List.getElem_mem hu
      have hpop := pop_ok hu (by omega)
      generalize pl[u] = a at *
      have ga := at_ofE (e := eN) g q2
      have ga' : atI (ofE eN 32 g) (a : Int) = some (.int (g a : Nat)) := ga
      have hpop' : popAtG (pl.map eN) [.int (u : Nat)] = some (.int (a : Nat), (pl.eraseIdx u).map eN) := hpop
      have hset := set_ofE (e := eN) 32 g a (1 - g a)
      have hgl := hg a
      have he : eN (1 - g a) = .int (1 - ((g a : Nat) : Int)) := by unfold eN; congr 1; omega
      rw [he] at hset
      have hix : ixN (ofE eN 32 g).length ((a : Nat) : Int) = some a := by rw [ofE_len]; exact ixN_nat q2
      have hga : g a = cwb k a := hun a hmem
      have hst1 := turn_one (f := g) (g := cwb k) hg q2 hga.symm
      have e1 : law_p8b4b1 [S, .ow (PoolT ns p r f), N (k : Nat), .fr (bK k), .fr (cT k), .ow (.lst EVR), N (m : Nat), .no, .no, .no, .ow (.lst (pl.map eN)), .no, .no, .ow (fT g), N (i : Nat), .no, .no, .no, s18, s19, .no, .no] = some (.nx [S, .ow (PoolT ns p r1 f1), N (k : Nat), .fr (bK k), .fr (cT k), .ow (.lst EVR), N (m : Nat), .no, .no, .no, .ow (.lst ((pl.eraseIdx u).map eN)), .no, .no, .ow (fT g), N (i : Nat), .no, .no, .no, s18, N (a : Nat), .no, .no]) := by
        simp [law_p8b4b1, hdr, hpop', n19]
      have e2 : law_p8b4b2 [S, .ow (PoolT ns p r1 f1), N (k : Nat), .fr (bK k), .fr (cT k), .ow (.lst EVR), N (m : Nat), .no, .no, .no, .ow (.lst ((pl.eraseIdx u).map eN)), .no, .no, .ow (fT g), N (i : Nat), .no, .no, .no, s18, N (a : Nat), .no, .no] = some (.nx [S, .ow (PoolT ns p r1 f1), N (k : Nat), .fr (bK k), .fr (cT k), .ow (.lst EVR), N (m : Nat), .no, .no, .no, .ow (.lst ((pl.eraseIdx u).map eN)), .no, .no, .ow (fT (upf g a (1 - g a))), N (i : Nat), .no, .no, .no, s18, N (a : Nat), .no, .no]) := by
        generalize (pl.eraseIdx u).map eN = X3 at *
        simp [law_p8b4b2, ga', hset, hix]
      have e0 : gN 14 (.int (i : Nat)) [S, .ow (PoolT ns p r f), N (k : Nat), .fr (bK k), .fr (cT k), .ow (.lst EVR), N (m : Nat), .no, .no, .no, .ow (.lst (pl.map eN)), .no, .no, .ow (fT g), s14, .no, .no, .no, s18, s19, .no, .no] = some [S, .ow (PoolT ns p r f), N (k : Nat), .fr (bK k), .fr (cT k), .ow (.lst EVR), N (m : Nat), .no, .no, .no, .ow (.lst (pl.map eN)), .no, .no, .ow (fT g), N (i : Nat), .no, .no, .no, s18, s19, .no, .no] := by
        simp [n14]
      by_cases c : i % 3 = 2
      · obtain ⟨r2, hnx⟩ := next_ok ns p r1 f1
        refine ⟨[S, .ow (PoolT ns (p + 1) r2 0), N (k : Nat), .fr (bK k), .fr (cT k), .ow (.lst EVR), N (m : Nat), .no, .no, .no, .ow (.lst ((pl.eraseIdx u).map eN)), .no, .no, .ow (fT (upf g a (1 - g a))), N (i : Nat), .no, .no, .no, s18, N (a : Nat), .no, .no], ?_, p + 1, r2, 0, pl.eraseIdx u, upf g a (1 - g a), N (i : Nat), N (a : Nat), rfl, rfl, q1, upf_lt hg a, by rw [hst1, hag], fun x hx => ?_, rfl⟩
        · rw [e0, Option.bind_some]
          unfold law_p8b4b
          refine sq_nx e1 (sq_nx e2 ?_)
          have hm3 : ((i : Int)).fmod 3 = ((i % 3 : Nat) : Int) := fmod_nat i 3
          rw [c] at hm3
          generalize ofE eN 32 (upf g a (1 - g a)) = X2 at *
          generalize (pl.eraseIdx u).map eN = X3 at *
          simp [law_p8b4b3, hm3, hnx]
        · have hne : x ≠ a := fun z => q3 (z ▸ hx)
          rw [upf_ne hne]
          exact hun x (q4 x hx)
      · refine ⟨[S, .ow (PoolT ns p r1 f1), N (k : Nat), .fr (bK k), .fr (cT k), .ow (.lst EVR), N (m : Nat), .no, .no, .no, .ow (.lst ((pl.eraseIdx u).map eN)), .no, .no, .ow (fT (upf g a (1 - g a))), N (i : Nat), .no, .no, .no, s18, N (a : Nat), .no, .no], ?_, p, r1, f1, pl.eraseIdx u, upf g a (1 - g a), N (i : Nat), N (a : Nat), rfl, rfl, q1, upf_lt hg a, by rw [hst1, hag], fun x hx => ?_, rfl⟩
        · rw [e0, Option.bind_some]
          unfold law_p8b4b
          refine sq_nx e1 (sq_nx e2 ?_)
          have hm3 : ((i : Int)).fmod 3 = ((i % 3 : Nat) : Int) := fmod_nat i 3
          have c' : ¬ ((i % 3 : Nat) : Int) = 2 := by omega
          generalize ((i % 3 : Nat) : Int) = I3 at *
          generalize ofE eN 32 (upf g a (1 - g a)) = X2 at *
          generalize (pl.eraseIdx u).map eN = X3 at *
          simp [law_p8b4b3, hm3, c']
        · have hne : x ≠ a := fun z => q3 (z ▸ hx)
          rw [upf_ne hne]
          exact hun x (q4 x hx))
    _ ⟨p, r, f, List.range 32, cwb k, s14, s19, n14, n19, Pls.init, cwb_lt k, ap_self (cwb k), fun x _ => rfl, rfl⟩
  rw [rngT_length, Nat.zero_add] at hag
  exact ⟨p', r', f', pl, g, s14', s19', n14', n19', hg, hag, h⟩
end
end TR

namespace TR
open PySem L2
theorem nr_at {k : Nat} (hk : k < 64) {g : Nat → Nat} {m : Nat} (hm : m ≤ 8) (h : apN (cwb k) g = m) : nr g = if m < 8 then bK k else .non := by
  by_cases c : m < 8
  · rw [if_pos c]
    exact nr_some hk (by omega)
  · rw [if_neg c]
    refine nr_none fun j hj hlt => ?_
    by_cases e : j = k
    · subst e; omega
    · have := tri (cwb j) g (cwb k)
      rw [ap_symm g (cwb k)] at this
      rcases far hj hk e with q | q <;> omega
section
variable (S : Sl) (ns : List Int) (k : Nat) (hk : k < 64)
include hk
theorem p8b_ok (m : Nat) (hm : m ≤ 8) (p r f : Int) (s10 s13 s14 s18 s19 : Sl) (n10 : s10.isLn = false) (n13 : s13.isLn = false) (n14 : s14.isLn = false) (n18 : s18.isLn = false) (n19 : s19.isLn = false) : ∃ (p' r' f' : Int) (s10' s13' s14' s18' s19' : Sl), s10'.isLn = false ∧ s13'.isLn = false ∧ s14'.isLn = false ∧ s18'.isLn = false ∧ s19'.isLn = false ∧
    law_p8b [S, .ow (PoolT ns p r f), N (k : Nat), .fr (bK k), .fr (cT k), .ow (.lst EVR), N (m : Nat), .no, .no, .no, s10, .no, .no, s13, s14, .no, .no, .no, s18, s19, .no, .no] = some (.nx [S, .ow (PoolT ns p' r' f'), N (k : Nat), .fr (bK k), .fr (cT k), .ow (.lst EVR), N (m : Nat), .no, .no, .no, s10', .no, .no, s13', s14', .no, .no, .no, s18', s19', .no, .no]) := by
  obtain ⟨r1, hnx⟩ := next_ok ns p r f
  have e1 : law_p8b1 [S, .ow (PoolT ns p r f), N (k : Nat), .fr (bK k), .fr (cT k), .ow (.lst EVR), N (m : Nat), .no, .no, .no, s10, .no, .no, s13, s14, .no, .no, .no, s18, s19, .no, .no] = some (.nx [S, .ow (PoolT ns (p + 1) r1 0), N (k : Nat), .fr (bK k), .fr (cT k), .ow (.lst EVR), N (m : Nat), .no, .no, .no, s10, .no, .no, s13, s14, .no, .no, .no, s18, s19, .no, .no]) := by
    simp [law_p8b1, hnx]
  have hl : lrgOf 0 32 = some ⟨.lst ((List.range 32).map eN), true⟩ := by
    rw [show lrgOf 0 32 = _ from lrgOf_nat 32 (by decide), rngT0]
    rfl
  have e2 : law_p8b2 [S, .ow (PoolT ns (p + 1) r1 0), N (k : Nat), .fr (bK k), .fr (cT k), .ow (.lst EVR), N (m : Nat), .no, .no, .no, s10, .no, .no, s13, s14, .no, .no, .no, s18, s19, .no, .no] = some (.nx [S, .ow (PoolT ns (p + 1) r1 0), N (k : Nat), .fr (bK k), .fr (cT k), .ow (.lst EVR), N (m : Nat), .no, .no, .no, .ow (.lst ((List.range 32).map eN)), .no, .no, s13, s14, .no, .no, .no, s18, s19, .no, .no]) := by
    generalize (List.range 32).map eN = X at *
    simp [law_p8b2, hl, n10]
  have e3 : law_p8b3 [S, .ow (PoolT ns (p + 1) r1 0), N (k : Nat), .fr (bK k), .fr (cT k), .ow (.lst EVR), N (m : Nat), .no, .no, .no, .ow (.lst ((List.range 32).map eN)), .no, .no, s13, s14, .no, .no, .no, s18, s19, .no, .no] = some (.nx [S, .ow (PoolT ns (p + 1) r1 0), N (k : Nat), .fr (bK k), .fr (cT k), .ow (.lst EVR), N (m : Nat), .no, .no, .no, .ow (.lst ((List.range 32).map eN)), .no, .no, .ow (cT k), s14, .no, .no, .no, s18, s19, .no, .no]) := by
    simp [law_p8b3, n13]
  obtain ⟨p', r', f', pl, g, s14', s19', n14', n19', hg, hag, hin⟩ := p8in_ok S ns k hk m hm s18 (p + 1) r1 0 s14 s19 n14 n19
  have rm := rgOk_n m (by omega)
  have e4 : law_p8b4 [S, .ow (PoolT ns (p + 1) r1 0), N (k : Nat), .fr (bK k), .fr (cT k), .ow (.lst EVR), N (m : Nat), .no, .no, .no, .ow (.lst ((List.range 32).map eN)), .no, .no, .ow (cT k), s14, .no, .no, .no, s18, s19, .no, .no] = some (.nx [S, .ow (PoolT ns p' r' f'), N (k : Nat), .fr (bK k), .fr (cT k), .ow (.lst EVR), N (m : Nat), .no, .no, .no, .ow (.lst (pl.map eN)), .no, .no, .ow (fT g), s14', .no, .no, .no, s18, s19', .no, .no]) := by
    have hin' : loopS (gN 14) law_p8b4b (rngT 0 m) [S, .ow (PoolT ns (p + 1) r1 0), N (k : Nat), .fr (bK k), .fr (cT k), .ow (.lst EVR), N (m : Nat), .no, .no, .no, .ow (.lst ((List.range 32).map eN)), .no, .no, .ow (cT k), s14, .no, .no, .no, s18, s19, .no, .no] = _ := hin
    unfold law_p8b4
    rw [← sl_eq law_p8b4b] at hin' ⊢
    generalize (List.range 32).map eN = X at *
    simp [rm, hin']
  have e5 : law_p8b5 [S, .ow (PoolT ns p' r' f'), N (k : Nat), .fr (bK k), .fr (cT k), .ow (.lst EVR), N (m : Nat), .no, .no, .no, .ow (.lst (pl.map eN)), .no, .no, .ow (fT g), s14', .no, .no, .no, s18, s19', .no, .no] = some (.nx [S, .ow (PoolT ns p' r' f'), N (k : Nat), .fr (bK k), .fr (cT k), .ow (.lst EVR), N (m : Nat), .no, .no, .no, .ow (.lst (pl.map eN)), .no, .no, .ow (fT g), s14', .no, .no, .no, .ow (fT g), s19', .no, .no]) := by
    simp [law_p8b5, n18]
  obtain ⟨o, hn⟩ := nearest_ok g hg
  rw [nr_at hk hm hag] at hn
  have hnes := ne_self g
  have e6 : law_p8b6 [S, .ow (PoolT ns p' r' f'), N (k : Nat), .fr (bK k), .fr (cT k), .ow (.lst EVR), N (m : Nat), .no, .no, .no, .ow (.lst (pl.map eN)), .no, .no, .ow (fT g), s14', .no, .no, .no, .ow (fT g), s19', .no, .no] = some (.nx [S, .ow (PoolT ns p' r' f'), N (k : Nat), .fr (bK k), .fr (cT k), .ow (.lst EVR), N (m : Nat), .no, .no, .no, .ow (.lst (pl.map eN)), .no, .no, .ow (fT g), s14', .no, .no, .no, .fr (fT g), s19', .no, .no]) := by
    have hn' : f_nearest [.fr (fT g)] = _ := hn
    unfold law_p8b6
    by_cases c : m < 8
    · have hs := same_ok (bK k) (sok_bK 3 k)
      have c' : (m : Int) < 8 := by omega
      rw [if_pos c] at hn'
      rw [← sl_eq f_nearest] at hn' ⊢
      rw [← sl_eq f_law_same] at hs ⊢
      simp [hn', hs, c', hnes]
    · have hs := same_ok .non trivial
      have c' : ¬ (m : Int) < 8 := by omega
      rw [if_neg c] at hn'
      rw [← sl_eq f_nearest] at hn' ⊢
      rw [← sl_eq f_law_same] at hs ⊢
      simp [hn', hs, c', hnes]
  refine ⟨p', r', f', .ow (.lst (pl.map eN)), .ow (fT g), s14', .fr (fT g), s19', rfl, rfl, n14', rfl, n19', ?_⟩
  unfold law_p8b
  exact sq_nx e1 (sq_nx e2 (sq_nx e3 (sq_nx e4 (sq_nx e5 e6))))
theorem p8_ok (p r f : Int) : ∃ (p' r' f' : Int) (s6 s10 s13 s14 s18 s19 : Sl), s10.isLn = false ∧ s13.isLn = false ∧ s14.isLn = false ∧ s18.isLn = false ∧ s19.isLn = false ∧ law_p8 [S, .ow (PoolT ns p r f), N (k : Nat), .fr (bK k), .fr (cT k), .ow (.lst EVR), .no, .no, .no, .no, .no, .no, .no, .no, .no, .no, .no, .no, .no, .no, .no, .no] = some (.nx [S, .ow (PoolT ns p' r' f'), N (k : Nat), .fr (bK k), .fr (cT k), .ow (.lst EVR), s6, .no, .no, .no, s10, .no, .no, s13, s14, .no, .no, .no, s18, s19, .no, .no]) := by
  obtain ⟨τ', h, p', r', f', s6, s10, s13, s14, s18, s19, n6, n10, n13, n14, n18, n19, rfl⟩ := loopS_inv (g := gN 6) (body := law_p8b) (fun _ τ => ∃ (p r f : Int) (s6 s10 s13 s14 s18 s19 : Sl), s6.isLn = false ∧ s10.isLn = false ∧ s13.isLn = false ∧ s14.isLn = false ∧ s18.isLn = false ∧ s19.isLn = false ∧ τ = [S, .ow (PoolT ns p r f), N (k : Nat), .fr (bK k), .fr (cT k), .ow (.lst EVR), s6, .no, .no, .no, s10, .no, .no, s13, s14, .no, .no, .no, s18, s19, .no, .no]) (rngT 0 9) 0
    (fun i d τ hd hI => by
      obtain ⟨p, r, f, s6, s10, s13, s14, s18, s19, n6, n10, n13, n14, n18, n19, rfl⟩ := hI
      have hi : i < 9 := by
        have := (List.getElem?_eq_some_iff.mp hd).1
        rw [rngT_length] at this
        exact this
      have e : d = .int (i : Nat) := by
        rw [rngT_get _ _ _ hi] at hd
        cases hd
        congr 1
        omega
      subst e
      obtain ⟨p', r', f', s10', s13', s14', s18', s19', m10, m13, m14, m18, m19, e⟩ := p8b_ok S ns k hk i (by omega) p r f s10 s13 s14 s18 s19 n10 n13 n14 n18 n19
      refine ⟨_, ?_, p', r', f', N (i : Nat), s10', s13', s14', s18', s19', rfl, m10, m13, m14, m18, m19, rfl⟩
      rw [← sl_eq law_p8b] at e ⊢
      simp [n6, e])
    _ ⟨p, r, f, .no, .no, .no, .no, .no, .no, rfl, rfl, rfl, rfl, rfl, rfl, rfl⟩
  have r9 : rgOk 9 = true := by decide +kernel
  refine ⟨p', r', f', s6, s10, s13, s14, s18, s19, n10, n13, n14, n18, n19, ?_⟩
  unfold law_p8
  rw [← sl_eq law_p8b] at h ⊢
  simp [r9, h]
theorem p9_ok (p r f : Int) (s6 s10 s13 s14 s18 s19 : Sl) : ∃ r' : Int, law_p9 [S, .ow (PoolT ns p r f), N (k : Nat), .fr (bK k), .fr (cT k), .ow (.lst EVR), s6, .no, .no, .no, s10, .no, .no, s13, s14, .no, .no, .no, s18, s19, .no, .no] = some (.nx [S, .ow (PoolT ns (p + 1) r' 0), N (k : Nat), .fr (bK k), .fr (cT k), .ow (.lst EVR), s6, .no, .no, .no, s10, .no, .no, s13, s14, .no, .no, .no, s18, s19, .no, .no]) := by
  obtain ⟨r1, hnx⟩ := next_ok ns p r f
  exact ⟨r1, by simp [law_p9, hnx]⟩
omit hk in
theorem list_f (ys : List Nat) (hl : ys.length = 32) (hy : ∀ y ∈ ys, y < 2) : ∃ g : Nat → Nat, (∀ x, g x < 2) ∧ ys.map eN = ofE eN 32 g := by
  refine ⟨fun x => ys.getD x 0, fun x => ?_, ?_⟩
  · by_cases c : x < ys.length
    · simp [c]
      exact hy _ (List.getElem_mem c)
    · simp [List.getD, List.getElem?_eq_none (by omega : ys.length ≤ x)]
  · unfold ofE
    apply List.ext_getElem
    · simp [hl]
    · intro i h1 h2
      simp at h1
      simp [h1]

theorem p10_ok (p r f : Int) (s6 s10 s13 s14 s18 s19 : Sl) : ∃ (ys : List Nat) (r' f' : Int), ys.length = 32 ∧ (∀ y ∈ ys, y < 2) ∧ law_p10 [S, .ow (PoolT ns p r f), N (k : Nat), .fr (bK k), .fr (cT k), .ow (.lst EVR), s6, .no, .no, .no, s10, .no, .no, s13, s14, .no, .no, .no, s18, s19, .no, .no] = some (.nx [S, .ow (PoolT ns p r' f'), N (k : Nat), .fr (bK k), .fr (cT k), .ow (.lst EVR), s6, .ow (.lst (ys.map eN)), .no, .no, s10, .no, .no, s13, s14, .no, .no, .no, s18, s19, .no, .no]) := by
  have hx := lcL_exE (g := gN 14) (cnd := yesB) (elt := law_p10e1) (own := [14]) (fun τ => ∃ r f : Int, τ = [S, .ow (PoolT ns p r f), N (k : Nat), .fr (bK k), .fr (cT k), .ow (.lst EVR), s6, .no, .no, .no, s10, .no, .no, s13, .no, .no, .no, .no, s18, s19, .no, .no]) (fun i : Nat => T.int (i : Nat)) eN (fun _ y => y < 2) (List.range 32)
    (fun x _ τ hR => by
      obtain ⟨r, f, rfl⟩ := hR
      obtain ⟨v, r', f', hd, v0, v1⟩ := draw_ok ns p r f 2 (by decide) (by decide +kernel)
      have e : eN v.toNat = .int v := by unfold eN; congr 1; omega
      refine ⟨v.toNat, [S, .ow (PoolT ns p r' f'), N (k : Nat), .fr (bK k), .fr (cT k), .ow (.lst EVR), s6, .no, .no, .no, s10, .no, .no, s13, .no, .no, .no, .no, s18, s19, .no, .no], ?_, ⟨r', f', rfl⟩, by omega⟩
      rw [e]
      simp [lcOne, law_p10e1, hd])
    _ ⟨r, f, rfl⟩
  obtain ⟨ys, τ', h1, ⟨r', f', rfl⟩, h3, h4⟩ := hx
  rw [← rngT0] at h1
  have hl : ys.length = 32 := by simpa using h3
  have hz : ys.length ≤ sizeLine := by rw [hl]; decide
  have r32 : rgOk 32 = true := by decide +kernel
  refine ⟨ys, r', f', hl, fun y hy => ?_, ?_⟩
  · obtain ⟨i, hi, e⟩ := List.getElem_of_mem hy
    exact h4 i i y (by rw [List.getElem?_range (by omega)]) (by rw [← e]; exact List.getElem?_eq_getElem hi)
  · unfold law_p10
    rw [← sl_eq law_p10e1] at h1 ⊢
    simp [r32, h1, hz]
theorem p11_ok (p r f : Int) (g0 : Nat → Nat) (hg0 : ∀ x, g0 x < 2) (s6 s10 s13 s14 s18 s19 : Sl) : ∃ (g : Nat → Nat) (r' f' : Int), (∀ x, g x < 2) ∧ law_p11 [S, .ow (PoolT ns p r f), N (k : Nat), .fr (bK k), .fr (cT k), .ow (.lst EVR), s6, .ow (fT g0), .no, .no, s10, .no, .no, s13, s14, .no, .no, .no, s18, s19, .no, .no] = some (.nx [S, .ow (PoolT ns p r' f'), N (k : Nat), .fr (bK k), .fr (cT k), .ow (.lst EVR), s6, .ow (fT g), .no, .no, s10, .no, .no, s13, s14, .no, .no, .no, s18, s19, .no, .no]) := by
  obtain ⟨v, r1, f1, hd, v0, v1⟩ := draw_ok ns p r f 2 (by decide) (by decide +kernel)
  by_cases c : v = 0
  · have hx := lcL_exE (g := gN 21) (cnd := yesB) (elt := law_p11e1) (own := [21]) (fun τ => ∃ r f : Int, τ = [S, .ow (PoolT ns p r f), N (k : Nat), .fr (bK k), .fr (cT k), .ow (.lst EVR), s6, .ow (fT g0), .no, .no, s10, .no, .no, s13, s14, .no, .no, .no, s18, s19, .no, .no]) (fun i : Nat => eN (cwb k i)) eN (fun _ y => y < 2) (List.range 32)
      (fun x _ τ hR => by
        obtain ⟨r, f, rfl⟩ := hR
        obtain ⟨v, r', f', hd, v0, v1⟩ := draw_ok ns p r f 4 (by decide) (by decide +kernel)
        have hc := cwb_lt k x
        by_cases c : v = 0
        · subst c
          have e : eN (1 - cwb k x) = .int (1 - (cwb k x : Int)) := by unfold eN; congr 1; omega
          refine ⟨1 - cwb k x, [S, .ow (PoolT ns p r' f'), N (k : Nat), .fr (bK k), .fr (cT k), .ow (.lst EVR), s6, .ow (fT g0), .no, .no, s10, .no, .no, s13, s14, .no, .no, .no, s18, s19, .no, .no], ?_, ⟨r', f', rfl⟩, by omega⟩
          rw [e]
          simp [lcOne, law_p11e1, hd, eN]
        · refine ⟨cwb k x, [S, .ow (PoolT ns p r' f'), N (k : Nat), .fr (bK k), .fr (cT k), .ow (.lst EVR), s6, .ow (fT g0), .no, .no, s10, .no, .no, s13, s14, .no, .no, .no, s18, s19, .no, .no], ?_, ⟨r', f', rfl⟩, hc⟩
          simp [lcOne, law_p11e1, hd, c])
      _ ⟨r1, f1, rfl⟩
    obtain ⟨ys, τ', h1, ⟨r', f', rfl⟩, h3, h4⟩ := hx
    have hl : ys.length = 32 := by simpa using h3
    have hz : ys.length ≤ sizeLine := by rw [hl]; decide
    obtain ⟨g, hg, eg⟩ := list_f ys hl fun y hy => by
      obtain ⟨i, hi, e⟩ := List.getElem_of_mem hy
      exact h4 i i y (by rw [List.getElem?_range (by omega)]) (by rw [← e]; exact List.getElem?_eq_getElem hi)
    refine ⟨g, r', f', hg, ?_⟩
    have hz2 : (ofE eN 32 g).length ≤ sizeLine := by rw [ofE_len]; decide
    rw [eg] at h1
    have h1' : lcL (gN 21) yesB law_p11e1 [21] (C k) [S, .ow (PoolT ns p r1 f1), N (k : Nat), .fr (bK k), .fr (cT k), .ow (.lst EVR), s6, .ow (fT g0), .no, .no, s10, .no, .no, s13, s14, .no, .no, .no, s18, s19, .no, .no] = _ := h1
    subst c
    unfold law_p11
    rw [← sl_eq law_p11e1] at h1' ⊢
    rw [← sl_eq f_law_draw] at hd ⊢
    simp [hd, h1', hz2]
  · refine ⟨g0, r1, f1, hg0, ?_⟩
    unfold law_p11
    rw [← sl_eq law_p11e1]
    rw [← sl_eq f_law_draw] at hd ⊢
    simp [hd, c]
theorem p13_ok (P : T) (g : Nat → Nat) (hg : ∀ x, g x < 2) (s6 s10 s13 s14 s18 s19 : Sl) : ∃ s7 s9, Hd s7 (fT g) ∧ Sl.isLn s9 = false ∧ law_p13 [S, .ow P, N (k : Nat), .fr (bK k), .fr (cT k), .ow (.lst EVR), s6, .ow (fT g), .ow (.lst []), .no, s10, .no, .no, s13, s14, .no, .no, .no, s18, s19, .no, .no] = some (.nx [S, .ow P, N (k : Nat), .fr (bK k), .fr (cT k), .ow (.lst EVR), s6, s7, .ow (.lst (sumsT g)), s9, s10, .no, .no, s13, s14, .no, .no, .no, s18, s19, .no, .no]) := by
  obtain ⟨τ', h, s7, s9, q7, n9, rfl⟩ := loopS_inv (g := gN 9) (body := law_p13b) (fun i τ => ∃ s7 s9, Hd s7 (fT g) ∧ Sl.isLn s9 = false ∧ τ = [S, .ow P, N (k : Nat), .fr (bK k), .fr (cT k), .ow (.lst EVR), s6, s7, .ow (.lst (ofE T.int i (fun u => 32 - 2 * (apN (cwb u) g : Int)))), s9, s10, .no, .no, s13, s14, .no, .no, .no, s18, s19, .no, .no]) (rngT 0 32) 0
    (fun i d τ hd hI => by
      rw [Nat.zero_add] at hI ⊢
      obtain ⟨s7, s9, q7, n9, rfl⟩ := hI
      have hi : i < 32 := by
        have := (List.getElem?_eq_some_iff.mp hd).1
        rw [rngT_length] at this
        exact this
      have e : d = .int (i : Nat) := by
        rw [rngT_get _ _ _ hi] at hd
        cases hd
        congr 1
        omega
      subst e
      have hev := EVR_at (k := i) (by omega)
      have ha : f_law_apart [.fr (cT i), .fr (fT g)] = _ := apart_ok (cwb i) g
      have m2 : ∀ a : Int, mulOk 2 a = true := fun a => by simp [mulOk]
      have hz : (ofE T.int i (fun u => 32 - 2 * (apN (cwb u) g : Int))).length < sizeLine := by rw [ofE_len]; exact Nat.lt_of_lt_of_le (by omega : i < 1001) (by decide)
      refine ⟨[S, .ow P, N (k : Nat), .fr (bK k), .fr (cT k), .ow (.lst EVR), s6, .fr (fT g), .ow (.lst (ofE T.int (i + 1) (fun u => 32 - 2 * (apN (cwb u) g : Int)))), N (i : Nat), s10, .no, .no, s13, s14, .no, .no, .no, s18, s19, .no, .no], ?_, _, _, .fr, rfl, rfl⟩
      rw [ofE_succ]
      generalize ofE T.int i (fun u => 32 - 2 * (apN (cwb u) g : Int)) = W at *
      unfold law_p13b
      rw [← sl_eq f_law_apart] at ha ⊢
      generalize EVR = EV1 at *
      simp [n9, hev, q7.v, q7.sl, ha, m2, hz])
    [S, .ow P, N (k : Nat), .fr (bK k), .fr (cT k), .ow (.lst EVR), s6, .ow (fT g), .ow (.lst (ofE T.int 0 (fun u => 32 - 2 * (apN (cwb u) g : Int)))), .no, s10, .no, .no, s13, s14, .no, .no, .no, s18, s19, .no, .no] ⟨_, .no, .ow, rfl, rfl⟩
  rw [rngT_length, Nat.zero_add] at h
  have r32 : rgOk 32 = true := by decide +kernel
  have h' : loopS (gN 9) law_p13b (rngT 0 32) [S, .ow P, N (k : Nat), .fr (bK k), .fr (cT k), .ow (.lst EVR), s6, .ow (fT g), .ow (.lst []), .no, s10, .no, .no, s13, s14, .no, .no, .no, s18, s19, .no, .no] = some (.nx [S, .ow P, N (k : Nat), .fr (bK k), .fr (cT k), .ow (.lst EVR), s6, s7, .ow (.lst (sumsT g)), s9, s10, .no, .no, s13, s14, .no, .no, .no, s18, s19, .no, .no]) := h
  refine ⟨s7, s9, q7, n9, ?_⟩
  unfold law_p13
  rw [← sl_eq law_p13b] at h' ⊢
  simp [r32, h']
end
end TR

namespace TR
open PySem L2
abbrev hT (h : Nat → Option Nat) : T := .lst (ofE eO 32 h)
theorem C_eO (k : Nat) : cT k = hT fun x => some (cwb k x) := by
  have e : C k = ofE eO 32 fun x => some (cwb k x) := by
    unfold C ofE
    rfl
  show T.lst (C k) = T.lst _
  rw [e]
def sumS (g : Nat → Nat) : Sl := .ow (.lst (sumsT g))
section
variable (S : Sl) (ns : List Int) (k : Nat) (hk : k < 64) (s6 s7 s9 s16 s18 : Sl) (s8 : Sl)
include hk
theorem p14_ok (p r f : Int) (s10 s13 s14 s19 : Sl) (n10 : s10.isLn = false) : law_p14 [S, .ow (PoolT ns p r f), N (k : Nat), .fr (bK k), .fr (cT k), .ow (.lst EVR), s6, s7, s8, s9, s10, .no, .no, s13, s14, .no, .no, .no, s18, s19, .no, .no] = some (.nx [S, .ow (PoolT ns p r f), N (k : Nat), .fr (bK k), .fr (cT k), .ow (.lst EVR), s6, s7, s8, s9, .ow (.lst ((List.range 32).map eN)), .no, .no, s13, s14, .no, .no, .no, s18, s19, .no, .no]) := by
  have hl : lrgOf 0 32 = some ⟨.lst ((List.range 32).map eN), true⟩ := by
    rw [show lrgOf 0 32 = _ from lrgOf_nat 32 (by decide), rngT0]
    rfl
  generalize (List.range 32).map eN = X at *
  simp [law_p14, hl, n10]
theorem p15_ok (p r f : Int) (s13 s14 s19 : Sl) : law_p15 [S, .ow (PoolT ns p r f), N (k : Nat), .fr (bK k), .fr (cT k), .ow (.lst EVR), s6, s7, s8, s9, .ow (.lst ((List.range 32).map eN)), .no, .no, s13, s14, .no, .no, .no, s18, s19, .no, .no] = some (.nx [S, .ow (PoolT ns p r f), N (k : Nat), .fr (bK k), .fr (cT k), .ow (.lst EVR), s6, s7, s8, s9, .ow (.lst ((List.range 32).map eN)), .ow (cT k), .no, s13, s14, .no, .no, .no, s18, s19, .no, .no]) := by
  simp [law_p15]
theorem p16_ok (p r f : Int) (s13 s14 s19 : Sl) : ∃ (u : Nat) (r' f' : Int), u ≤ 16 ∧ law_p16 [S, .ow (PoolT ns p r f), N (k : Nat), .fr (bK k), .fr (cT k), .ow (.lst EVR), s6, s7, s8, s9, .ow (.lst ((List.range 32).map eN)), .ow (cT k), .no, s13, s14, .no, .no, .no, s18, s19, .no, .no] = some (.nx [S, .ow (PoolT ns p r' f'), N (k : Nat), .fr (bK k), .fr (cT k), .ow (.lst EVR), s6, s7, s8, s9, .ow (.lst ((List.range 32).map eN)), .ow (cT k), N (u : Nat), s13, s14, .no, .no, .no, s18, s19, .no, .no]) := by
  obtain ⟨v, r', f', hd, v0, v1⟩ := draw_ok ns p r f 17 (by decide) (by decide +kernel)
  refine ⟨v.toNat, r', f', by omega, ?_⟩
  have e : ((v.toNat : Nat) : Int) = v := by omega
  rw [e]
  simp [law_p16, hd]
theorem p17_ok (p r f : Int) (u : Nat) (s13 s14 s19 : Sl) (n13 : s13.isLn = false) : ∃ (w : Nat) (r' f' : Int), w ≤ 8 ∧ law_p17 [S, .ow (PoolT ns p r f), N (k : Nat), .fr (bK k), .fr (cT k), .ow (.lst EVR), s6, s7, s8, s9, .ow (.lst ((List.range 32).map eN)), .ow (cT k), N (u : Nat), s13, s14, .no, .no, .no, s18, s19, .no, .no] = some (.nx [S, .ow (PoolT ns p r' f'), N (k : Nat), .fr (bK k), .fr (cT k), .ow (.lst EVR), s6, s7, s8, s9, .ow (.lst ((List.range 32).map eN)), .ow (cT k), N (u : Nat), N (w : Nat), s14, .no, .no, .no, s18, s19, .no, .no]) := by
  obtain ⟨v, r', f', hd, v0, v1⟩ := draw_ok ns p r f 9 (by decide) (by decide +kernel)
  refine ⟨v.toNat, r', f', by omega, ?_⟩
  have e : ((v.toNat : Nat) : Int) = v := by omega
  rw [e]
  simp [law_p17, hd, n13]
theorem p18_ok (p r f : Int) (u w : Nat) (hu : u ≤ 16) (hw : w ≤ 8) (s14 s19 : Sl) (n14 : s14.isLn = false) (n19 : s19.isLn = false) : ∃ (p' r' f' : Int) (pl : List Nat) (h : Nat → Option Nat) (s14' s19' : Sl), s19'.isLn = false ∧ unr h = u ∧ mis k h = w ∧ law_p18 [S, .ow (PoolT ns p r f), N (k : Nat), .fr (bK k), .fr (cT k), .ow (.lst EVR), s6, s7, s8, s9, .ow (.lst ((List.range 32).map eN)), .ow (hT (fun x => some (cwb k x))), N (u : Nat), N (w : Nat), s14, .no, .no, .no, s18, s19, .no, .no] = some (.nx [S, .ow (PoolT ns p' r' f'), N (k : Nat), .fr (bK k), .fr (cT k), .ow (.lst EVR), s6, s7, s8, s9, .ow (.lst (pl.map eN)), .ow (hT h), N (u : Nat), N (w : Nat), s14', .no, .no, .no, s18, s19', .no, .no]) := by
  obtain ⟨τ', hl, p', r', f', pl, h, s14', s19', n14', n19', hpl, hun, hur, hmi, rfl⟩ := loopS_inv (g := gN 14) (body := law_p18b) (fun i τ => ∃ (p r f : Int) (pl : List Nat) (h : Nat → Option Nat) (s14 s19 : Sl), s14.isLn = false ∧ s19.isLn = false ∧ Pls pl i ∧ (∀ x ∈ pl, h x = some (cwb k x)) ∧ unr h = min i u ∧ mis k h = i - u ∧ τ = [S, .ow (PoolT ns p r f), N (k : Nat), .fr (bK k), .fr (cT k), .ow (.lst EVR), s6, s7, s8, s9, .ow (.lst (pl.map eN)), .ow (hT h), N (u : Nat), N (w : Nat), s14, .no, .no, .no, s18, s19, .no, .no]) (rngT 0 (u + w)) 0
    (fun i d τ hd hI => by
      rw [Nat.zero_add] at hI ⊢
      obtain ⟨p, r, f, pl, h, s14, s19, n14, n19, hpl, hun, hur, hmi, rfl⟩ := hI
      have hi : i < u + w := by
        have := (List.getElem?_eq_some_iff.mp hd).1
        rw [rngT_length] at this
        exact this
      have e : d = .int (i : Nat) := by
        rw [rngT_get _ _ _ hi] at hd
        cases hd
        congr 1
        omega
      subst e
      have hlen := hpl.len
      have e0 : gN 14 (.int (i : Nat)) [S, .ow (PoolT ns p r f), N (k : Nat), .fr (bK k), .fr (cT k), .ow (.lst EVR), s6, s7, s8, s9, .ow (.lst (pl.map eN)), .ow (hT h), N (u : Nat), N (w : Nat), s14, .no, .no, .no, s18, s19, .no, .no] = some [S, .ow (PoolT ns p r f), N (k : Nat), .fr (bK k), .fr (cT k), .ow (.lst EVR), s6, s7, s8, s9, .ow (.lst (pl.map eN)), .ow (hT h), N (u : Nat), N (w : Nat), N (i : Nat), .no, .no, .no, s18, s19, .no, .no] := by
        simp [n14]
      obtain ⟨p1, r1, f1, e1⟩ : ∃ p1 r1 f1 : Int, law_p18b1 [S, .ow (PoolT ns p r f), N (k : Nat), .fr (bK k), .fr (cT k), .ow (.lst EVR), s6, s7, s8, s9, .ow (.lst (pl.map eN)), .ow (hT h), N (u : Nat), N (w : Nat), N (i : Nat), .no, .no, .no, s18, s19, .no, .no] = some (.nx [S, .ow (PoolT ns p1 r1 f1), N (k : Nat), .fr (bK k), .fr (cT k), .ow (.lst EVR), s6, s7, s8, s9, .ow (.lst (pl.map eN)), .ow (hT h), N (u : Nat), N (w : Nat), N (i : Nat), .no, .no, .no, s18, s19, .no, .no]) := by
        have hm5 : ((i : Int)).fmod 5 = ((i % 5 : Nat) : Int) := fmod_nat i 5
        by_cases c : i % 5 = 0
        · obtain ⟨r2, hnx⟩ := next_ok ns p r f
          rw [c] at hm5
          exact ⟨p + 1, r2, 0, by simp [law_p18b1, hm5, hnx]⟩
        · have c' : ¬ ((i % 5 : Nat) : Int) = 0 := by omega
          generalize ((i % 5 : Nat) : Int) = I5 at *
          exact ⟨p, r, f, by simp [law_p18b1, hm5, c']⟩
      obtain ⟨v, r2, f2, hdr, v0, v1⟩ := draw_ok ns p1 r1 f1 (pl.length : Int) (by omega) (fdiv_small _ (by omega) (by omega))
      obtain ⟨y, rfl⟩ : ∃ y : Nat, v = y := ⟨v.toNat, by omega⟩
      have hy : y < pl.length := by omega
      obtain ⟨q1, q2, q3, q4⟩ := hpl.step hy
      have hmem : pl[y] ∈ pl := List.getElem_mem hy
      have hpop := pop_ok hy (by omega)
      generalize pl[y] = a at *
      have hpop' : popAtG (pl.map eN) [.int (y : Nat)] = some (.int (a : Nat), (pl.eraseIdx y).map eN) := hpop
      have hha := hun a hmem
      have ga := at_ofE (e := eO) h q2
      rw [hha] at ga
      have ga' : atI (ofE eO 32 h) (a : Int) = some (.int (cwb k a : Nat)) := ga
      have hix : ixN (ofE eO 32 h).length ((a : Nat) : Int) = some a := by rw [ofE_len]; exact ixN_nat q2
      have hc := cwb_lt k a
      have e2 : law_p18b2 [S, .ow (PoolT ns p1 r1 f1), N (k : Nat), .fr (bK k), .fr (cT k), .ow (.lst EVR), s6, s7, s8, s9, .ow (.lst (pl.map eN)), .ow (hT h), N (u : Nat), N (w : Nat), N (i : Nat), .no, .no, .no, s18, s19, .no, .no] = some (.nx [S, .ow (PoolT ns p1 r2 f2), N (k : Nat), .fr (bK k), .fr (cT k), .ow (.lst EVR), s6, s7, s8, s9, .ow (.lst ((pl.eraseIdx y).map eN)), .ow (hT h), N (u : Nat), N (w : Nat), N (i : Nat), .no, .no, .no, s18, N (a : Nat), .no, .no]) := by
        simp [law_p18b2, hdr, hpop', n19]
      by_cases c : i < u
      · have c' : (i : Int) < (u : Int) := by omega
        have hset := set_ofE (e := eO) 32 h a none
        have hset' : (ofE eO 32 h).set a .non = ofE eO 32 (upf h a none) := hset
        refine ⟨[S, .ow (PoolT ns p1 r2 f2), N (k : Nat), .fr (bK k), .fr (cT k), .ow (.lst EVR), s6, s7, s8, s9, .ow (.lst ((pl.eraseIdx y).map eN)), .ow (hT (upf h a none)), N (u : Nat), N (w : Nat), N (i : Nat), .no, .no, .no, s18, N (a : Nat), .no, .no], ?_, p1, r2, f2, pl.eraseIdx y, upf h a none, N (i : Nat), N (a : Nat), rfl, rfl, q1, fun x hx => ?_, ?_, ?_, rfl⟩
        · rw [e0, Option.bind_some]
          unfold law_p18b
          refine sq_nx e1 (sq_nx e2 ?_)
          simp [law_p18b3, c', hset', hix]
        · have hne : x ≠ a := fun z => q3 (z ▸ hx)
          rw [upf_ne hne]
          exact hun x (q4 x hx)
        · have : unr (upf h a none) = unr h + 1 := ct_one q2 (by rw [hha]; rfl) (by rw [upf_same]; rfl) fun x hx => by rw [upf_ne hx]
          omega
        · have : mis k (upf h a none) = mis k h := ct_congr fun x _ => by
            by_cases e : x = a
            · subst e
              rw [upf_same, hha]
              simp
            · rw [upf_ne e]
          omega
      · have c' : ¬ (i : Int) < (u : Int) := by omega
        have hset := set_ofE (e := eO) 32 h a (some (1 - cwb k a))
        have he : eO (some (1 - cwb k a)) = .int (1 - (cwb k a : Int)) := by
          show T.int _ = _
          congr 1
          omega
        rw [he] at hset
        refine ⟨[S, .ow (PoolT ns p1 r2 f2), N (k : Nat), .fr (bK k), .fr (cT k), .ow (.lst EVR), s6, s7, s8, s9, .ow (.lst ((pl.eraseIdx y).map eN)), .ow (hT (upf h a (some (1 - cwb k a)))), N (u : Nat), N (w : Nat), N (i : Nat), .no, .no, .no, s18, N (a : Nat), .no, .no], ?_, p1, r2, f2, pl.eraseIdx y, upf h a (some (1 - cwb k a)), N (i : Nat), N (a : Nat), rfl, rfl, q1, fun x hx => ?_, ?_, ?_, rfl⟩
        · rw [e0, Option.bind_some]
          unfold law_p18b
          refine sq_nx e1 (sq_nx e2 ?_)
          generalize hCW : cwb k a = CW at *
          simp [law_p18b3, c', hset, hix, ga']
        · have hne : x ≠ a := fun z => q3 (z ▸ hx)
          rw [upf_ne hne]
          exact hun x (q4 x hx)
        · have : unr (upf h a (some (1 - cwb k a))) = unr h := ct_congr fun x _ => by
            by_cases e : x = a
            · subst e
              rw [upf_same, hha]
              rfl
            · rw [upf_ne e]
          omega
        · have : mis k (upf h a (some (1 - cwb k a))) = mis k h + 1 := ct_one q2 (by rw [hha]; simp) (by
            rw [upf_same]
            show (!decide (1 - cwb k a = cwb k a)) = true
            rw [decide_eq_false (by omega)]
            rfl) fun x hx => by rw [upf_ne hx]
          omega)
    _ ⟨p, r, f, List.range 32, fun x => some (cwb k x), s14, s19, n14, n19, Pls.init, fun x _ => rfl, by
      unfold unr ct
      rw [Nat.zero_min, List.length_eq_zero_iff, List.filter_eq_nil_iff]
      intro x _
      simp, by
      unfold mis ct
      rw [Nat.zero_sub, List.length_eq_zero_iff, List.filter_eq_nil_iff]
      intro x _
      simp, rfl⟩
  rw [rngT_length, Nat.zero_add] at hur hmi
  have r1 : rgOk ((u : Int) + (w : Int)) = true := rgOk_i _ (by omega) (by omega)
  have e1 : ((u : Int) + (w : Int)).toNat = u + w := by omega
  refine ⟨p', r', f', pl, h, s14', s19', n19', by omega, by omega, ?_⟩
  unfold law_p18
  rw [← sl_eq law_p18b] at hl ⊢
  generalize (List.range 32).map eN = X at *
  simp [r1, e1, hl]
def cBf (j : Nat) : T := bK j
omit hk in
theorem p20_ok (P : T) (u w : Nat) (h : Nat → Option Nat) (hu : unr h = u) (n9 : s9.isLn = false) (s10 s14 s19 : Sl) : ∃ s9' s20', Sl.isLn s9' = false ∧ Sl.isLn s20' = false ∧ law_p20 [S, .ow P, N (k : Nat), .fr (bK k), .fr (cT k), .ow (.lst EVR), s6, s7, s8, s9, s10, .ow (hT h), N (u : Nat), N (w : Nat), s14, .ow (.lst []), .no, .no, s18, s19, .no, .no] = some (.nx [S, .ow P, N (k : Nat), .fr (bK k), .fr (cT k), .ow (.lst EVR), s6, s7, s8, s9', s10, .ow (hT h), N (u : Nat), N (w : Nat), s14, .ow (.lst (((List.range 64).filter (fit h)).map cBf)), .no, .no, s18, s19, s20', .no]) := by
  obtain ⟨τ', hl, s9', s20', m9, m20, rfl⟩ := loopS_inv (g := gN 9) (body := law_p20b) (fun i τ => ∃ s9 s20, Sl.isLn s9 = false ∧ Sl.isLn s20 = false ∧ τ = [S, .ow P, N (k : Nat), .fr (bK k), .fr (cT k), .ow (.lst EVR), s6, s7, s8, s9, s10, .ow (hT h), N (u : Nat), N (w : Nat), s14, .ow (.lst (((List.range i).filter (fit h)).map cBf)), .no, .no, s18, s19, s20, .no]) (rngT 0 64) 0
    (fun i d τ hd hI => by
      rw [Nat.zero_add] at hI ⊢
      obtain ⟨s9, s20, n9, n20, rfl⟩ := hI
      have hi : i < 64 := by
        have := (List.getElem?_eq_some_iff.mp hd).1
        rw [rngT_length] at this
        exact this
      have e : d = .int (i : Nat) := by
        rw [rngT_get _ _ _ hi] at hd
        cases hd
        congr 1
        omega
      subst e
      have hev := EVR_at hi
      have hb : f_law_bits [.fr (.int (i : Nat)), .fr (.int 6)] = some (⟨bK i, true⟩, [.fr (.int (i : Nat)), .fr (.int 6)]) := law_bits_ok i 6 (by decide) (by decide)
      have m2 : ∀ a : Int, mulOk 2 a = true := fun a => by simp [mulOk]
      have hfl : ((List.range i).filter (fit h)).length ≤ i := Nat.le_trans (List.length_filter_le _ _) (by simp)
      have hz : ((List.range i).filter (fit h)).length < sizeLine := Nat.lt_of_le_of_lt hfl (Nat.lt_of_lt_of_le (by omega : i < 1001) (by decide))
      have e0 : gN 9 (.int (i : Nat)) [S, .ow P, N (k : Nat), .fr (bK k), .fr (cT k), .ow (.lst EVR), s6, s7, s8, s9, s10, .ow (hT h), N (u : Nat), N (w : Nat), s14, .ow (.lst (((List.range i).filter (fit h)).map cBf)), .no, .no, s18, s19, s20, .no] = some [S, .ow P, N (k : Nat), .fr (bK k), .fr (cT k), .ow (.lst EVR), s6, s7, s8, N (i : Nat), s10, .ow (hT h), N (u : Nat), N (w : Nat), s14, .ow (.lst (((List.range i).filter (fit h)).map cBf)), .no, .no, s18, s19, s20, .no] := by
        simp [n9]
      have hin : lcL (gN 19) law_p20b1c1 (vrd 19) [19] (rngT 0 32) [S, .ow P, N (k : Nat), .fr (bK k), .fr (cT k), .ow (.lst EVR), s6, s7, s8, N (i : Nat), s10, .ow (hT h), N (u : Nat), N (w : Nat), s14, .ow (.lst (((List.range i).filter (fit h)).map cBf)), .no, .no, s18, .no, s20, .no] =
          some (((List.range 32).filter fun x => match h x with
            | none => false
            | some v => !decide (v = cwb i x)).map (fun x => T.int (x : Nat)), [S, .ow P, N (k : Nat), .fr (bK k), .fr (cT k), .ow (.lst EVR), s6, s7, s8, N (i : Nat), s10, .ow (hT h), N (u : Nat), N (w : Nat), s14, .ow (.lst (((List.range i).filter (fit h)).map cBf)), .no, .no, s18, .no, s20, .no]) := by
        rw [rngT0]
        refine lcL_filE _ _ _ _ fun x hx => ?_
        have hx := List.mem_range.mp hx
        have a1 : atI (C i) (x : Int) = some (eN (cwb i x)) := at_ofE _ hx
        have a2 := at_ofE (e := eO) h hx
        cases hv : h x with
        | none =>
          have his : isnG .non .non = some ⟨.bl false, false⟩ := rfl
          rw [hv] at a2
          have a2' : atI (ofE eO 32 h) (x : Int) = some .non := a2
          generalize EVR = E1 at *
          simp [lcOne, law_p20b1c1, a2', his]
        | some v =>
          have his : isnG (eN v) .non = some ⟨.bl true, false⟩ := rfl
          have hne' : neG (eN v) (eN (cwb i x)) = some ⟨.bl (!decide (v = cwb i x)), false⟩ := en_nat.neG (by decide) v (cwb i x)
          rw [hv] at a2
          have a2' : atI (ofE eO 32 h) (x : Int) = some (eN v) := a2
          generalize EVR = E1 at *
          cases hdc : decide (v = cwb i x) <;> simp [lcOne, law_p20b1c1, a2', his, hev, a1, hne', hdc]
      have hlm : ((List.range 32).filter fun x => match h x with
            | none => false
            | some v => !decide (v = cwb i x)).length ≤ sizeLine := Nat.le_trans (ct_le _) (by decide)
      have hlc : ((List.range 32).filter fun x => match h x with
            | none => false
            | some v => !decide (v = cwb i x)).length = mis i h := rfl
      have r32 : rgOk 32 = true := by decide +kernel
      have e1 : law_p20b1 [S, .ow P, N (k : Nat), .fr (bK k), .fr (cT k), .ow (.lst EVR), s6, s7, s8, N (i : Nat), s10, .ow (hT h), N (u : Nat), N (w : Nat), s14, .ow (.lst (((List.range i).filter (fit h)).map cBf)), .no, .no, s18, s19, s20, .no] = some (.nx [S, .ow P, N (k : Nat), .fr (bK k), .fr (cT k), .ow (.lst EVR), s6, s7, s8, N (i : Nat), s10, .ow (hT h), N (u : Nat), N (w : Nat), s14, .ow (.lst (((List.range i).filter (fit h)).map cBf)), .no, .no, s18, s19, N (mis i h : Nat), .no]) := by
        rw [← hlc]
        generalize ((List.range 32).filter fun x => match h x with
            | none => false
            | some v => !decide (v = cwb i x)) = W at *
        unfold law_p20b1
        rw [← sl_eq law_p20b1c1] at hin ⊢
        generalize EVR = E1 at *
        simp [r32, hin, hlm, n20]
      refine ⟨[S, .ow P, N (k : Nat), .fr (bK k), .fr (cT k), .ow (.lst EVR), s6, s7, s8, N (i : Nat), s10, .ow (hT h), N (u : Nat), N (w : Nat), s14, .ow (.lst (((List.range (i + 1)).filter (fit h)).map cBf)), .no, .no, s18, s19, N (mis i h : Nat), .no], ?_, _, _, rfl, rfl, rfl⟩
      rw [e0, Option.bind_some]
      unfold law_p20b
      refine sq_nx e1 ?_
      have hfu : (List.range (i + 1)).filter (fit h) = (List.range i).filter (fit h) ++ (if fit h i = true then [i] else []) := by
        rw [List.range_succ, List.filter_append, List.filter_cons]
        simp
      by_cases c : 2 * mis i h + unr h < 16
      · have hf : fit h i = true := decide_eq_true c
        have c' : 2 * (mis i h : Int) + (u : Int) < 16 := by omega
        rw [hfu, if_pos hf, List.map_append]
        have hz2 : (((List.range i).filter (fit h)).map cBf).length < sizeLine := by rw [List.length_map]; exact hz
        generalize ((List.range i).filter (fit h)).map cBf = W at *
        generalize EVR = E1 at *
        unfold law_p20b2
        rw [← sl_eq f_law_bits] at hb ⊢
        simp [m2, c', hb, hz2, cBf]
      · have hf : fit h i = false := decide_eq_false c
        have c' : ¬ 2 * (mis i h : Int) + (u : Int) < 16 := by omega
        rw [hfu, if_neg (by rw [hf]; exact Bool.false_ne_true), List.append_nil]
        generalize ((List.range i).filter (fit h)).map cBf = W at *
        generalize EVR = E1 at *
        unfold law_p20b2
        rw [← sl_eq f_law_bits] at hb ⊢
        simp [m2, c'])
    _ ⟨s9, .no, n9, rfl, rfl⟩
  rw [rngT_length, Nat.zero_add] at hl
  have hl' : loopS (gN 9) law_p20b (rngT 0 64) [S, .ow P, N (k : Nat), .fr (bK k), .fr (cT k), .ow (.lst EVR), s6, s7, s8, s9, s10, .ow (hT h), N (u : Nat), N (w : Nat), s14, .ow (.lst []), .no, .no, s18, s19, .no, .no] = some (.nx [S, .ow P, N (k : Nat), .fr (bK k), .fr (cT k), .ow (.lst EVR), s6, s7, s8, s9', s10, .ow (hT h), N (u : Nat), N (w : Nat), s14, .ow (.lst (((List.range 64).filter (fit h)).map cBf)), .no, .no, s18, s19, s20', .no]) := hl
  have r64 : rgOk 64 = true := by decide +kernel
  refine ⟨s9', s20', m9, m20, ?_⟩
  unfold law_p20
  rw [← sl_eq law_p20b] at hl' ⊢
  generalize ((List.range 64).filter (fit h)).map cBf = W at *
  simp [r64, hl']
omit hk in
theorem bK_ne (j : Nat) : neG (.lst [bK j]) (.lst [bK j]) = some ⟨.bl false, false⟩ := by
  have := en_nat.lst.lst.neG (by decide) [(List.range 6).map fun i => bt j (6 - 1 - i)] [(List.range 6).map fun i => bt j (6 - 1 - i)]
  rw [decide_eq_true rfl, List.map_cons, List.map_nil, List.map_map] at this
  exact this
omit hk in
theorem bK_nn (j : Nat) : neG (.lst [bK j]) (.lst []) = some ⟨.bl true, false⟩ := by
  have := en_nat.lst.lst.neG (by decide) [(List.range 6).map fun i => bt j (6 - 1 - i)] []
  rw [decide_eq_false (by simp), List.map_cons, List.map_nil, List.map_map] at this
  exact this
theorem p21_ok (P : T) (u w : Nat) (h : Nat → Option Nat) (hu : unr h = u) (hw : mis k h = w) (s10 s14 s19 s20 : Sl) : law_p21 [S, .ow P, N (k : Nat), .fr (bK k), .fr (cT k), .ow (.lst EVR), s6, s7, s8, s9, s10, .ow (hT h), N (u : Nat), N (w : Nat), s14, .ow (.lst (((List.range 64).filter (fit h)).map cBf)), .no, .no, s18, s19, s20, .no] = some (.nx [S, .ow P, N (k : Nat), .fr (bK k), .fr (cT k), .ow (.lst EVR), s6, s7, s8, s9, s10, .ow (hT h), N (u : Nat), N (w : Nat), s14, .ow (.lst (((List.range 64).filter (fit h)).map cBf)), .no, .no, s18, s19, s20, .no]) := by
  have hnr : f_nearest_read [.fr (hT h)] = _ := near_read_ok h
  have m2 : ∀ a : Int, mulOk 2 a = true := fun a => by simp [mulOk]
  have z0 : 0 ≤ sizeLine := Nat.zero_le _
  have z1 : 1 ≤ sizeLine := by decide
  have hn00 : neG (.lst []) (.lst []) = some ⟨.bl false, false⟩ := rfl
  by_cases c : ∃ j, j < 64 ∧ fit h j = true
  · obtain ⟨j, hj, hfj⟩ := c
    have hun : ∀ i, i < 64 → fit h i = true → i = j := fun i hi hp => fit_uniq hi hj hp hfj
    rw [filt_uniq hj hfj hun, List.map_cons, List.map_nil]
    rw [lastP_some hfj 64 hj hun] at hnr
    have hnr' : f_nearest_read [.fr (hT h)] = some (⟨bK j, false⟩, [.fr (hT h)]) := hnr
    have hs := same_ok (bK j) (sok_bK 3 j)
    have hnn := bK_nn j
    have hnn2 := bK_ne j
    have h0 : atI [cBf j] 0 = some (bK j) := rfl
    have hcb : cBf j = bK j := rfl
    by_cases c2 : 2 * w + u < 16
    · have hfk : fit h k = true := decide_eq_true (by omega)
      have hjk := hun k hk hfk
      subst hjk
      have c2' : 2 * (w : Int) + (u : Int) < 16 := by omega
      rw [hcb] at h0 ⊢
      unfold law_p21
      rw [← sl_eq f_nearest_read] at hnr' ⊢
      rw [← sl_eq f_law_same] at hs ⊢
      generalize bK k = BB at *
      simp [hnr', hs, hnn, hnn2, h0, m2, c2', z0, z1]
    · have c2' : ¬ 2 * (w : Int) + (u : Int) < 16 := by omega
      rw [hcb] at h0 ⊢
      unfold law_p21
      rw [← sl_eq f_nearest_read] at hnr' ⊢
      rw [← sl_eq f_law_same] at hs ⊢
      generalize bK j = BB at *
      simp [hnr', hs, hnn, h0, m2, c2', z0, z1]
  · have hno : ∀ j, j < 64 → fit h j = false := fun j hj => by
      cases e : fit h j with
      | false => rfl
      | true => exact absurd ⟨j, hj, e⟩ c
    have hf : (List.range 64).filter (fit h) = [] := List.filter_eq_nil_iff.mpr fun j hj => by rw [hno j (List.mem_range.mp hj)]; exact Bool.false_ne_true
    rw [hf, List.map_nil]
    rw [lastP_none 64 hno] at hnr
    have hnr' : f_nearest_read [.fr (hT h)] = some (⟨.non, false⟩, [.fr (hT h)]) := hnr
    have hs := same_ok .non trivial
    have c2 : ¬ 2 * w + u < 16 := fun z => by
      have : fit h k = true := decide_eq_true (by omega)
      rw [hno k hk] at this
      cases this
    have c2' : ¬ 2 * (w : Int) + (u : Int) < 16 := by omega
    unfold law_p21
    rw [← sl_eq f_nearest_read] at hnr' ⊢
    rw [← sl_eq f_law_same] at hs ⊢
    simp [hnr', hs, hn00, m2, c2', z0]
omit hk in
theorem p22_ok (g : Nat → Nat) (h7 : Hd s7 (fT g)) (s1 s10 s11 s12 s13 s14 s15 s19 s20 : Sl) : ∃ s7', Hd s7' (fT g) ∧ law_p22 [S, s1, N (k : Nat), .fr (bK k), .fr (cT k), .ow (.lst EVR), s6, s7, .ow (.lst (sumsT g)), s9, s10, s11, s12, s13, s14, s15, .no, .no, s18, s19, s20, .no] = some (.nx [S, s1, N (k : Nat), .fr (bK k), .fr (cT k), .ow (.lst EVR), s6, s7', .ow (.lst (sumsT g)), s9, s10, s11, s12, s13, s14, s15, .ow (.lst (((List.range 64).filter fun j => decide (apN (cwb j) g < 8)).map fun j => T.int (j : Nat))), .no, s18, s19, s20, .no]) := by
  obtain ⟨τ', hl, s7', q7, rfl⟩ := lcL_filR (g := gN 9) (cnd := law_p22c1) (elt := vrd 9) (own := [9]) (fun τ => ∃ s7, Hd s7 (fT g) ∧ τ = [S, s1, N (k : Nat), .fr (bK k), .fr (cT k), .ow (.lst EVR), s6, s7, .ow (.lst (sumsT g)), .no, s10, s11, s12, s13, s14, s15, .no, .no, s18, s19, s20, .no]) (fun j : Nat => T.int (j : Nat)) (fun j : Nat => T.int (j : Nat)) (fun j => decide (apN (cwb j) g < 8)) (List.range 64)
    (fun j hj τ hR => by
      obtain ⟨s7, h7, rfl⟩ := hR
      have hj := List.mem_range.mp hj
      have hev := EVR_at hj
      have ha : f_law_apart [.fr (cT j), .fr (fT g)] = _ := apart_ok (cwb j) g
      refine ⟨[S, s1, N (k : Nat), .fr (bK k), .fr (cT k), .ow (.lst EVR), s6, .fr (fT g), .ow (.lst (sumsT g)), .no, s10, s11, s12, s13, s14, s15, .no, .no, s18, s19, s20, .no], ?_, _, .fr, rfl⟩
      unfold law_p22c1
      rw [← sl_eq f_law_apart] at ha ⊢
      generalize EVR = E1 at *
      by_cases c : apN (cwb j) g < 8
      · have c' : (apN (cwb j) g : Int) < 8 := by omega
        simp [lcOne, hev, h7.v, h7.sl, h7.ln, ha, c, c']
      · have c' : ¬ (apN (cwb j) g : Int) < 8 := by omega
        simp [lcOne, hev, h7.v, h7.sl, h7.ln, ha, c, c'])
    _ ⟨s7, h7, rfl⟩
  rw [← rngT0] at hl
  have r64 : rgOk 64 = true := by decide +kernel
  have hz : ((List.range 64).filter fun j => decide (apN (cwb j) g < 8)).length ≤ sizeLine := Nat.le_trans (List.length_filter_le _ _) (by rw [List.length_range]; decide)
  refine ⟨s7', q7, ?_⟩
  unfold law_p22
  rw [← sl_eq law_p22c1] at hl ⊢
  generalize ((List.range 64).filter fun j => decide (apN (cwb j) g < 8)) = W at *
  generalize EVR = E1 at *
  simp [r64, hl, hz]
omit hk in
theorem near_cases (g : Nat → Nat) : (((List.range 64).filter fun j => decide (apN (cwb j) g < 8)) = [] ∧ nr g = .non) ∨ ∃ j, j < 64 ∧ ((List.range 64).filter fun j => decide (apN (cwb j) g < 8)) = [j] ∧ nr g = bK j := by
  by_cases c : ∃ j, j < 64 ∧ apN (cwb j) g < 8
  · obtain ⟨j, hj, h⟩ := c
    exact .inr ⟨j, hj, filt_uniq hj (decide_eq_true h) fun i hi hp => uniq hi hj (of_decide_eq_true hp) h, nr_some hj h⟩
  · refine .inl ⟨List.filter_eq_nil_iff.mpr fun j hj => ?_, nr_none fun j hj hlt => c ⟨j, hj, hlt⟩⟩
    rw [decide_eq_true_eq]
    exact fun hlt => c ⟨j, List.mem_range.mp hj, hlt⟩
omit hk in
theorem p23_ok (g : Nat → Nat) (s1 s10 s11 s12 s13 s14 s15 s19 s20 : Sl) : ∃ s17, Hd s17 (nr g) ∧ law_p23 [S, s1, N (k : Nat), .fr (bK k), .fr (cT k), .ow (.lst EVR), s6, s7, .ow (.lst (sumsT g)), s9, s10, s11, s12, s13, s14, s15, .ow (.lst (((List.range 64).filter fun j => decide (apN (cwb j) g < 8)).map fun j => T.int (j : Nat))), .no, s18, s19, s20, .no] = some (.nx [S, s1, N (k : Nat), .fr (bK k), .fr (cT k), .ow (.lst EVR), s6, s7, .ow (.lst (sumsT g)), s9, s10, s11, s12, s13, s14, s15, .ow (.lst (((List.range 64).filter fun j => decide (apN (cwb j) g < 8)).map fun j => T.int (j : Nat))), s17, s18, s19, s20, .no]) := by
  have z0 : 0 ≤ sizeLine := Nat.zero_le _
  rcases near_cases g with ⟨e1, e2⟩ | ⟨j, hj, e1, e2⟩
  · rw [e1, e2]
    have hn00 : neG (.lst []) (.lst []) = some ⟨.bl false, false⟩ := rfl
    exact ⟨.fr .non, .fr, by simp [law_p23, hn00, z0]⟩
  · rw [e1, e2]
    have hn : neG (.lst [.int (j : Nat)]) (.lst []) = some ⟨.bl true, false⟩ := by
      have := en_nat.lst.neG (by decide) [j] []
      rw [decide_eq_false (by simp)] at this
      exact this
    have h0 : atI [T.int (j : Nat)] 0 = some (.int (j : Nat)) := rfl
    have hb : f_law_bits [.fr (.int (j : Nat)), .fr (.int 6)] = some (⟨bK j, true⟩, [.fr (.int (j : Nat)), .fr (.int 6)]) := law_bits_ok j 6 (by decide) (by decide)
    refine ⟨.ow (bK j), .ow, ?_⟩
    unfold law_p23
    rw [← sl_eq f_law_bits] at hb ⊢
    generalize bK j = BB at *
    simp [hn, h0, hb, z0]
omit hk in
theorem p24_ok (g : Nat → Nat) (hg : ∀ x, g x < 2) (h7 : Hd s7 (fT g)) (s17 : Sl) (h17 : Hd s17 (nr g)) (s1 s10 s11 s12 s13 s14 s15 s19 s20 : Sl) : ∃ τ, law_p24 [S, s1, N (k : Nat), .fr (bK k), .fr (cT k), .ow (.lst EVR), s6, s7, .ow (.lst (sumsT g)), s9, s10, s11, s12, s13, s14, s15, .ow (.lst (((List.range 64).filter fun j => decide (apN (cwb j) g < 8)).map fun j => T.int (j : Nat))), s17, s18, s19, s20, .no] = some (.rt ⟨.bl true, false⟩ τ) := by
  obtain ⟨o1, hs⟩ := sums_ok g hg
  obtain ⟨o2, hn⟩ := nearest_ok g hg
  have hs' : f_sums_of [.fr (fT g)] = some (⟨.lst (sumsT g), o1⟩, [.fr (fT g)]) := hs
  have hn' : f_nearest [.fr (fT g)] = some (⟨nr g, o2⟩, [.fr (fT g)]) := hn
  have z2 : 2 ≤ sizeLine := by decide
  have hlen : ((((List.range 64).filter fun j => decide (apN (cwb j) g < 8)).length : Nat) : Int) < 2 := by
    rcases near_cases g with ⟨e1, _⟩ | ⟨j, _, e1, _⟩ <;> rw [e1] <;> simp
  have hsk : sok 4 (nr g) := by
    rcases near_cases g with ⟨_, e⟩ | ⟨j, _, _, e⟩
    · rw [e]; trivial
    · rw [e]; exact sok_bK 2 j
  have hsm := same_ok (.lst [.lst (sumsT g), nr g]) ⟨by simp, fun x hx => by
    simp only [List.mem_cons, List.not_mem_nil, or_false] at hx
    rcases hx with rfl | rfl
    · exact sok_sums 2 g
    · exact hsk⟩
  refine ⟨[S, s1, N (k : Nat), .fr (bK k), .fr (cT k), .ow (.lst EVR), s6, s7, .fr (.lst (sumsT g)), s9, s10, s11, s12, s13, s14, s15, .ow (.lst (((List.range 64).filter fun j => decide (apN (cwb j) g < 8)).map fun j => T.int (j : Nat))), .fr (nr g), s18, s19, s20, .no], ?_⟩
  unfold law_p24
  rw [← sl_eq f_sums_of] at hs' ⊢
  rw [← sl_eq f_nearest] at hn' ⊢
  rw [← sl_eq f_law_same] at hsm ⊢
  generalize ((List.range 64).filter fun j => decide (apN (cwb j) g < 8)) = W at *
  generalize nr g = NG at *
  generalize sumsT g = SG at *
  generalize EVR = E1 at *
  simp [hlen, hs', hn', hsm, z2, h7.v, h7.sl, h7.ln, h17.v, h17.sl, h17.ln]
end
theorem law_true (ns : List Int) (h : ns.length ≤ 63) : ∃ τ', f_law [.fr (.frl (ns.map .int))] = some (⟨.bl true, false⟩, τ') := by
  obtain ⟨r0, e1⟩ := p1_ok ns
  generalize hS : T.frl (ns.map .int) = S at e1 ⊢
  obtain ⟨k, r2, f2, hk, e2⟩ := p2_ok (.fr S) ns 0 r0 0
  have e3 := p3_ok (.fr S) (PoolT ns 0 r2 f2) k
  have e4 := p4_ok (.fr S) (PoolT ns 0 r2 f2) k
  have e5 := p5_ok (.fr S) (PoolT ns 0 r2 f2) k
  have e6 := p6_ok (.fr S) (PoolT ns 0 r2 f2) k
  have e7 := p7_ok (.fr S) (PoolT ns 0 r2 f2) k hk
  obtain ⟨p8, r8, f8, s6, s10, s13, s14, s18, s19, n10, n13, n14, n18, n19, e8⟩ := p8_ok (.fr S) ns k hk 0 r2 f2
  obtain ⟨r9, e9⟩ := p9_ok (.fr S) ns k hk p8 r8 f8 s6 s10 s13 s14 s18 s19
  obtain ⟨ys, r10, f10, yl, yb, e10⟩ := p10_ok (.fr S) ns k hk (p8 + 1) r9 0 s6 s10 s13 s14 s18 s19
  obtain ⟨g0, hg0, eg0⟩ := list_f ys yl yb
  rw [eg0] at e10
  obtain ⟨g, r11, f11, hg, e11⟩ := p11_ok (.fr S) ns k hk (p8 + 1) r10 f10 g0 hg0 s6 s10 s13 s14 s18 s19
  obtain ⟨s7, s9, q7, n9, e13⟩ := p13_ok (.fr S) k hk (PoolT ns (p8 + 1) r11 f11) g hg s6 s10 s13 s14 s18 s19
  have e14 := p14_ok (.fr S) ns k hk s6 s7 s9 s18 (.ow (.lst (sumsT g))) (p8 + 1) r11 f11 s10 s13 s14 s19 n10
  have e15 := p15_ok (.fr S) ns k hk s6 s7 s9 s18 (.ow (.lst (sumsT g))) (p8 + 1) r11 f11 s13 s14 s19
  obtain ⟨u, r16, f16, hu, e16⟩ := p16_ok (.fr S) ns k hk s6 s7 s9 s18 (.ow (.lst (sumsT g))) (p8 + 1) r11 f11 s13 s14 s19
  obtain ⟨w, r17, f17, hw, e17⟩ := p17_ok (.fr S) ns k hk s6 s7 s9 s18 (.ow (.lst (sumsT g))) (p8 + 1) r16 f16 u s13 s14 s19 n13
  obtain ⟨p18, r18, f18, pl, h', s14', s19', n19', hur, hmi, e18⟩ := p18_ok (.fr S) ns k hk s6 s7 s9 s18 (.ow (.lst (sumsT g))) (p8 + 1) r17 f17 u w hu hw s14 s19 n14 n19
  rw [C_eO] at e17
  obtain ⟨s9', s20', m9, m20, e20⟩ := p20_ok (.fr S) k s6 s7 s9 s18 (.ow (.lst (sumsT g))) (PoolT ns p18 r18 f18) u w h' hur n9 (.ow (.lst (pl.map eN))) s14' s19'
  have e21 := p21_ok (.fr S) k hk s6 s7 s9' s18 (.ow (.lst (sumsT g))) (PoolT ns p18 r18 f18) u w h' hur hmi (.ow (.lst (pl.map eN))) s14' s19' s20'
  obtain ⟨s7', q7', e22⟩ := p22_ok (.fr S) k s6 s7 s9' s18 g q7 (.ow (PoolT ns p18 r18 f18)) (.ow (.lst (pl.map eN))) (.ow (hT h')) (N (u : Nat)) (N (w : Nat)) s14' (.ow (.lst (((List.range 64).filter (fit h')).map cBf))) s19' s20'
  obtain ⟨s17, q17, e23⟩ := p23_ok (.fr S) k s6 s7' s9' s18 g (.ow (PoolT ns p18 r18 f18)) (.ow (.lst (pl.map eN))) (.ow (hT h')) (N (u : Nat)) (N (w : Nat)) s14' (.ow (.lst (((List.range 64).filter (fit h')).map cBf))) s19' s20'
  obtain ⟨τ, e24⟩ := p24_ok (.fr S) k s6 s7' s9' s18 g hg q7' s17 q17 (.ow (PoolT ns p18 r18 f18)) (.ow (.lst (pl.map eN))) (.ow (hT h')) (N (u : Nat)) (N (w : Nat)) s14' (.ow (.lst (((List.range 64).filter (fit h')).map cBf))) s19' s20'
  have hbl : b_law ([.fr S] ++ List.replicate 21 .no) = some (.rt ⟨.bl true, false⟩ τ) := by
    rw [b_law_eq]
    unfold law_p
    refine sq_nx e1 (sq_nx e2 (sq_nx e3 (sq_nx e4 (sq_nx e5 (sq_nx e6 (sq_nx e7 (sq_nx e8 (sq_nx e9 (sq_nx e10 (sq_nx e11 (sq_nx ?_ (sq_nx e13 (sq_nx e14 (sq_nx e15 (sq_nx e16 (sq_nx e17 (sq_nx e18 (sq_nx ?_ (sq_nx e20 (sq_nx e21 (sq_nx e22 (sq_nx e23 e24))))))))))))))))))))))
    · simp
    · simp
  refine ⟨back [.fr S] τ, ?_⟩
  show ((b_law ([.fr S] ++ List.replicate 21 .no)).bind _) = _
  rw [hbl]
  rfl
end TR

namespace TR
open PySem L2
def d_bits_of : He.DefD := ⟨("bits_of", none), "bits_of", "bits_of", defArgs s_bits_of, defBody s_bits_of, defScope s_bits_of, [], []⟩
def d_row_of : He.DefD := ⟨("row_of", none), "row_of", "row_of", defArgs s_row_of, defBody s_row_of, defScope s_row_of, [], []⟩
def d_sums_of : He.DefD := ⟨("sums_of", none), "sums_of", "sums_of", defArgs s_sums_of, defBody s_sums_of, defScope s_sums_of, [], []⟩
def d_nearest : He.DefD := ⟨("nearest", none), "nearest", "nearest", defArgs s_nearest, defBody s_nearest, defScope s_nearest, [], []⟩
def d_nearest_read : He.DefD := ⟨("nearest_read", none), "nearest_read", "nearest_read", defArgs s_nearest_read, defBody s_nearest_read, defScope s_nearest_read, [], []⟩
def d_law_mixed : He.DefD := ⟨("_law_mixed", none), "_law_mixed", "_law_mixed", defArgs s_law_mixed, defBody s_law_mixed, defScope s_law_mixed, [], []⟩
def d_law_rest : He.DefD := ⟨("_law_rest", none), "_law_rest", "_law_rest", defArgs s_law_rest, defBody s_law_rest, defScope s_law_rest, [], []⟩
def d_law_pool : He.DefD := ⟨("_law_pool", none), "_law_pool", "_law_pool", defArgs s_law_pool, defBody s_law_pool, defScope s_law_pool, [], []⟩
def d_law_next : He.DefD := ⟨("_law_next", none), "_law_next", "_law_next", defArgs s_law_next, defBody s_law_next, defScope s_law_next, [], []⟩
def d_law_draw : He.DefD := ⟨("_law_draw", none), "_law_draw", "_law_draw", defArgs s_law_draw, defBody s_law_draw, defScope s_law_draw, [], []⟩
def d_law_same : He.DefD := ⟨("_law_same", none), "_law_same", "_law_same", defArgs s_law_same, defBody s_law_same, defScope s_law_same, [], []⟩
def d_law_bits : He.DefD := ⟨("_law_bits", none), "_law_bits", "_law_bits", defArgs s_law_bits, defBody s_law_bits, defScope s_law_bits, [], []⟩
def d_law_row : He.DefD := ⟨("_law_row", none), "_law_row", "_law_row", defArgs s_law_row, defBody s_law_row, defScope s_law_row, [], []⟩
def d_law_apart : He.DefD := ⟨("_law_apart", none), "_law_apart", "_law_apart", defArgs s_law_apart, defBody s_law_apart, defScope s_law_apart, [], []⟩
def d_law : He.DefD := ⟨("law", none), "law", "law", defArgs s_law, defBody s_law, defScope s_law, [], []⟩
def fn : List He.DefD := [d_bits_of, d_row_of, d_sums_of, d_nearest, d_nearest_read, d_law_mixed, d_law_rest, d_law_pool, d_law_next, d_law_draw, d_law_same, d_law_bits, d_law_row, d_law_apart, d_law]
def fa : List He.Fa := [.glo "bits_of", .glo "row_of", .glo "sums_of", .glo "nearest", .glo "nearest_read", .glo "_law_mixed", .glo "_law_rest", .glo "_law_pool", .glo "_law_next", .glo "_law_draw", .glo "_law_same", .glo "_law_bits", .glo "_law_row", .glo "_law_apart", .glo "law", .free "all", .free "bool", .free "dict", .free "enumerate", .free "int", .free "isinstance", .free "len", .free "list", .free "range", .free "str", .free "sum", .free "tuple", .int "LONG" 32, .int "WIDE" 5]
def loose : List Str := ["WIDE", "LONG", "bits_of", "row_of", "sums_of", "nearest", "nearest_read", "_law_mixed", "_law_rest", "_law_pool", "_law_next", "_law_draw", "_law_same", "_law_bits", "_law_row", "_law_apart"]
abbrev RR : PySem.W.OpenRow := PySem.W.OpenLaw.row PySem.Challenge.rw_lockwork_k73_whole_rows_that_mend_seven
abbrev hk : PySem.W.Hook := He.hookD 4 fa fn
def ob (s : PySem.W.SharedT) : He.AlD := He.obsDG 4 fa fn (HandSHeadRun.getT s)
theorem ob_eq (s : PySem.W.SharedT) : ob s = hk.obs s.abs := He.obsDG_eq (HandSHeadRun.getT_eq s)
theorem run (w : World) : HandSHeadRun.RunEq RR (PySem.W.view RR.prog [18]) hk ob 6000 loose w := by
  intro os
  kernel_rfl
theorem facts {P : Program} {w : World} {K : PySem.W.Frag} {h : Heap} {mg : Str → Option Value} {f : Addr} (X : K.In h) (G : h.Ns mainGlobals mg) (hfa : mg ("law" : Str) = some (.ref f)) (c : He.SaysD fa fn K) :
    ∃ fd : FuncData, (∀ (s : Shared) (v : Value), BindsTo s fd ⟨[v], []⟩ [("script", v)]) ∧ ∀ base : Heap, K.In base → base.Ns mainGlobals mg → FnOk P w K mg base CX0 7 f fd ["script"] (spT K 1 f_law) := by
  obtain ⟨fd0, F0⟩ := c.def_ 0 (d := d_bits_of) rfl
  obtain ⟨fd1, F1⟩ := c.def_ 1 (d := d_row_of) rfl
  obtain ⟨fd2, F2⟩ := c.def_ 2 (d := d_sums_of) rfl
  obtain ⟨fd3, F3⟩ := c.def_ 3 (d := d_nearest) rfl
  obtain ⟨fd4, F4⟩ := c.def_ 4 (d := d_nearest_read) rfl
  obtain ⟨fd5, F5⟩ := c.def_ 5 (d := d_law_mixed) rfl
  obtain ⟨fd6, F6⟩ := c.def_ 6 (d := d_law_rest) rfl
  obtain ⟨fd7, F7⟩ := c.def_ 7 (d := d_law_pool) rfl
  obtain ⟨fd8, F8⟩ := c.def_ 8 (d := d_law_next) rfl
  obtain ⟨fd9, F9⟩ := c.def_ 9 (d := d_law_draw) rfl
  obtain ⟨fd10, F10⟩ := c.def_ 10 (d := d_law_same) rfl
  obtain ⟨fd11, F11⟩ := c.def_ 11 (d := d_law_bits) rfl
  obtain ⟨fd12, F12⟩ := c.def_ 12 (d := d_law_row) rfl
  obtain ⟨fd13, F13⟩ := c.def_ 13 (d := d_law_apart) rfl
  obtain ⟨fd14, F14⟩ := c.def_ 14 (d := d_law) rfl
  have m0 := He.glo_ok X G (c.fact 0 (f := .glo "bits_of") rfl)
  have m1 := He.glo_ok X G (c.fact 1 (f := .glo "row_of") rfl)
  have m2 := He.glo_ok X G (c.fact 2 (f := .glo "sums_of") rfl)
  have m3 := He.glo_ok X G (c.fact 3 (f := .glo "nearest") rfl)
  have m4 := He.glo_ok X G (c.fact 4 (f := .glo "nearest_read") rfl)
  have m5 := He.glo_ok X G (c.fact 5 (f := .glo "_law_mixed") rfl)
  have m6 := He.glo_ok X G (c.fact 6 (f := .glo "_law_rest") rfl)
  have m7 := He.glo_ok X G (c.fact 7 (f := .glo "_law_pool") rfl)
  have m8 := He.glo_ok X G (c.fact 8 (f := .glo "_law_next") rfl)
  have m9 := He.glo_ok X G (c.fact 9 (f := .glo "_law_draw") rfl)
  have m10 := He.glo_ok X G (c.fact 10 (f := .glo "_law_same") rfl)
  have m11 := He.glo_ok X G (c.fact 11 (f := .glo "_law_bits") rfl)
  have m12 := He.glo_ok X G (c.fact 12 (f := .glo "_law_row") rfl)
  have m13 := He.glo_ok X G (c.fact 13 (f := .glo "_law_apart") rfl)
  have m14 := He.glo_ok X G (c.fact 14 (f := .glo "law") rfl)
  have B : Bl mg := ⟨He.free_ok X G (c.fact 15 (f := .free "all") rfl), He.free_ok X G (c.fact 16 (f := .free "bool") rfl), He.free_ok X G (c.fact 17 (f := .free "dict") rfl), He.free_ok X G (c.fact 18 (f := .free "enumerate") rfl), He.free_ok X G (c.fact 19 (f := .free "int") rfl), He.free_ok X G (c.fact 20 (f := .free "isinstance") rfl), He.free_ok X G (c.fact 21 (f := .free "len") rfl), He.free_ok X G (c.fact 22 (f := .free "list") rfl), He.free_ok X G (c.fact 23 (f := .free "range") rfl), He.free_ok X G (c.fact 24 (f := .free "str") rfl), He.free_ok X G (c.fact 25 (f := .free "sum") rfl), He.free_ok X G (c.fact 26 (f := .free "tuple") rfl), He.int_ok X G (c.fact 27 (f := .int "LONG" 32) rfl), He.int_ok X G (c.fact 28 (f := .int "WIDE" 5) rfl)⟩
  have e := hfa.symm.trans m14
  cases e
  have b := FunD.bindsA (ps := ["script"]) F14 fun _ _ _ _ _ _ us hl => match us, hl with | [_], _ => rfl
  refine ⟨fd14, fun s v => b s [v] rfl, fun base _ _ => ?_⟩
  have H_bits_of := ok_bits_of (P := P) (w := w) (base := base) F0 m0 B 
  have H_row_of := ok_row_of (P := P) (w := w) (base := base) F1 m1 B H_bits_of
  have H_sums_of := ok_sums_of (P := P) (w := w) (base := base) F2 m2 B 
  have H_nearest := ok_nearest (P := P) (w := w) (base := base) F3 m3 B H_bits_of H_sums_of
  have H_nearest_read := ok_nearest_read (P := P) (w := w) (base := base) F4 m4 B H_bits_of H_row_of
  have H_law_mixed := ok_law_mixed (P := P) (w := w) (base := base) F5 m5 B 
  have H_law_rest := ok_law_rest (P := P) (w := w) (base := base) F6 m6 B H_law_mixed
  have H_law_pool := ok_law_pool (P := P) (w := w) (base := base) F7 m7 B H_law_rest
  have H_law_next := ok_law_next (P := P) (w := w) (base := base) F8 m8 B H_law_rest
  have H_law_draw := ok_law_draw (P := P) (w := w) (base := base) F9 m9 B H_law_rest
  have H_law_same := ok_law_same (P := P) (w := w) (base := base) F10 m10 B 
  have H_law_bits := ok_law_bits (P := P) (w := w) (base := base) F11 m11 B 
  have H_law_row := ok_law_row (P := P) (w := w) (base := base) F12 m12 B H_law_bits
  have H_law_apart := ok_law_apart (P := P) (w := w) (base := base) F13 m13 B 
  exact ok_law F14 B H_row_of H_sums_of H_nearest H_nearest_read H_law_pool H_law_next H_law_draw H_law_same H_law_bits H_law_row H_law_apart
end TR
open PySem PySem.W PySem.Calls PyProof.Rows
theorem PySem.Challenge.cw_lockwork_k73_whole_rows_that_mend_seven_holds : PySem.Challenge.rw_lockwork_k73_whole_rows_that_mend_seven.Holds := by
  w_on; o_law
  refine HandSHeadRun.head_any (r := OpenLaw.row PySem.Challenge.rw_lockwork_k73_whole_rows_that_mend_seven) (q := view (OpenLaw.row PySem.Challenge.rw_lockwork_k73_whole_rows_that_mend_seven).prog [18]) (H := TR.hk) (ob := TR.ob) (M := 6000) (loose := TR.loose) (d := HandSHeadRun.topDef (OpenLaw.row PySem.Challenge.rw_lockwork_k73_whole_rows_that_mend_seven).prog 18) (kwd := []) TR.ob_eq
    (by kernel_rfl) (fun s => by kernel_rfl) TR.run (by kernel_rfl) (by kernel_rfl) (by kernel_rfl) (by rfl) (by first | assumption | decide +kernel) (by decide +kernel) ⟨rfl, rfl, rfl, rfl, rfl, by decide +kernel⟩ ?hw ?hc
  case hw => w_witness2
  case hc =>
    refine L2.walk_ofE (l := PySem.Challenge.rw_lockwork_k73_whole_rows_that_mend_seven) (n := 63) (k := 7) (x := "script") (CX := L2.CX0) rfl (by decide) (by kernel_rfl) ⟨rfl, by decide, by decide⟩ ?F (fun _ _ _ _ z => z)
    intro w mg fa h Y G hmg0
    obtain ⟨K, KX, c⟩ := Y
    have hmg : mg ("law" : PySem.Str) = some (.ref fa) := by
      have e : (HandSHeadRun.topDef (OpenLaw.row PySem.Challenge.rw_lockwork_k73_whole_rows_that_mend_seven).prog 18).name = ("law" : PySem.Str) := by kernel_rfl
      rw [← e]
      exact hmg0
    obtain ⟨fd, hb, hF⟩ := TR.facts (P := (PySem.Challenge.rw_lockwork_k73_whole_rows_that_mend_seven).prog) (w := w) KX G hmg c
    refine ⟨K, fd, TR.spT K 1 TR.f_law, KX, hb, fun H a ns hl _ hS => ?_, hF⟩
    obtain ⟨τ', e⟩ := TR.law_true ns hl
    exact TR.law_spec hS e

